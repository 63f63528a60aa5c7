import PyProof.Rows.All
import Wide.All
import OpenK.AllK
import Wide.FinOn
import HandS.ForMost
import HandS.Wide
import HandS.TupMul
import HandS.IsInst
import HandS.Deep
import HandS.Flow
import HandS.Style
import HandS.TupAny
import HandS.Zip
import KE.GoesMore
import KE.KTupSum
import HandS.TupSets
import KE.SortData
import KE.LtData
import KE.LtSeq
import KE.DatumOrd
import HandS.Gcd
import KE.KMathGC
import HandS.Conv
import HandS.Strs
import PyProof.P3In
import PyProof.Rows.TupDisplay
import HandS.DictTup
import PySem.Challenge.RW_jointneeds_k40_common_multiples

section
set_option Elab.async false
set_option linter.all false
set_option maxRecDepth 100000
set_option maxHeartbeats 2000000
namespace DL
open PySem L2 PyProof.Rows

/-! ### data values, stores -/
inductive DV where
  | d (x : PyData)
  | r (a : Addr)
  | t (xs : List DV)
inductive MO where
  | lst (xs : List DV)
  | dK (kvs : List (Key × DV))
  | dT (kvs : List (List Key × DV))
  | ins (C : Addr) (fs : List (Str × DV))
abbrev Sto := Addr → Option MO
abbrev Env := List (Option DV)
def up (s : Sto) (a : Addr) (m : MO) : Sto := fun b => if b = a then some m else s b
theorem up_same {s : Sto} {a : Addr} {m : MO} : up s a m a = some m := if_pos rfl
theorem up_ne {s : Sto} {a b : Addr} {m : MO} (h : b ≠ a) : up s a m b = s b := if_neg h

section
variable (K : PySem.W.Frag)
mutual
inductive Rp (F : Hp) : V → PyData → Prop
  | non : Rp F .non .none
  | bl (b : Bool) : Rp F (.bl b) (.bool b)
  | int (i : Int) : Rp F (.int i) (.int i)
  | str (x : Str) : Rp F (.str x) (.str x)
  | lst {a : Addr} {xs : List V} {ds : List PyData} : SqL K F a xs → RpAll F xs ds → Rp F (.ref a) (.list ds)
  | tup {a : Addr} {xs : List V} {ds : List PyData} : F a = some (.tup xs) → RpAll F xs ds → Rp F (.ref a) (.tuple ds)
inductive RpAll (F : Hp) : List V → List PyData → Prop
  | nil : RpAll F [] []
  | cons {v : V} {vs : List V} {d : PyData} {ds : List PyData} : Rp F v d → RpAll F vs ds → RpAll F (v :: vs) (d :: ds)
end
mutual
inductive RV (F : Hp) : V → DV → Prop
  | d {v : V} {x : PyData} : Rp K F v x → RV F v (.d x)
  | r (a : Addr) : RV F (.ref a) (.r a)
  | t {a : Addr} {vs : List V} {xs : List DV} : F a = some (.tup vs) → RVs F vs xs → RV F (.ref a) (.t xs)
inductive RVs (F : Hp) : List V → List DV → Prop
  | nil : RVs F [] []
  | cons {v : V} {vs : List V} {x : DV} {xs : List DV} : RV F v x → RVs F vs xs → RVs F (v :: vs) (x :: xs)
end
def MOk (F H : Hp) (a : Addr) : MO → Prop
  | .lst xs => ∃ vs, H a = some (.lst vs) ∧ RVs K F vs xs
  | .dK kvs => ∃ ws, H a = some (.dK ws) ∧ Paired (fun p q => p.1 = q.1 ∧ RV K F p.2 q.2) ws kvs
  | .dT kvs => ∃ ws, H a = some (.dT ws) ∧ Paired (fun p q => p.1 = q.1 ∧ RV K F p.2 q.2) ws kvs
  | .ins C fs => ∃ dx ws, H a = some (.ins C dx ws) ∧ Paired (fun p q => p.1 = q.1 ∧ RV K F p.2 q.2) ws fs
structure Rs (F H : Hp) (st : Sto) : Prop where
  sub : ∀ a o, F a = some o → H a = some o ∧ st a = none
  ok : ∀ a m, st a = some m → MOk K F H a m
def RE (F : Hp) (σ : L2.St) (ε : Env) : Prop := σ.length = ε.length ∧ ∀ (i : Nat) (x : DV), ε[i]? = some (some x) → ∃ v, σ[i]? = some (some v) ∧ RV K F v x
end
structure Step (F H : Hp) (st : Sto) (F' H' : Hp) (st' : Sto) : Prop where
  ex : ∀ a o, F a = some o → F' a = some o
  pres : ∀ a o, H a = some o → st a = none → H' a = some o ∧ st' a = none
  fnew : ∀ a o, F' a = some o → F a ≠ none ∨ H a = none ∨ st a ≠ none ∨ ∃ ts, H a = some (.tup ts)
theorem Step.refl (F H : Hp) (st : Sto) : Step F H st F H st := ⟨fun _ _ h => h, fun _ _ h k => ⟨h, k⟩, fun a o h => .inl (by rw [h]; exact fun q => nomatch q)⟩
theorem Step.trans {F H : Hp} {st : Sto} {F1 H1 : Hp} {st1 : Sto} {F2 H2 : Hp} {st2 : Sto} (a : Step F H st F1 H1 st1) (b : Step F1 H1 st1 F2 H2 st2) : Step F H st F2 H2 st2 where
  ex := fun x o h => b.ex x o (a.ex x o h)
  pres := fun x o h k => let ⟨h1, k1⟩ := a.pres x o h k; b.pres x o h1 k1
  fnew := fun x o h => by
    rcases b.fnew x o h with q | q | q | ⟨ts, q⟩
    · cases e : F1 x with
      | none => exact absurd e q
      | some u => exact a.fnew x u e
    · cases e : H x with
      | none => exact .inr (.inl rfl)
      | some u =>
        cases e2 : st x with
        | none =>
          have := (a.pres x u e e2).1
          rw [q] at this; cases this
        | some m => exact .inr (.inr (.inl fun z => nomatch z))
    · cases e : H x with
      | none => exact .inr (.inl rfl)
      | some u =>
        cases e2 : st x with
        | none => exact absurd (a.pres x u e e2).2 q
        | some m => exact .inr (.inr (.inl fun z => nomatch z))
    · cases e : H x with
      | none => exact .inr (.inl rfl)
      | some u =>
        cases e2 : st x with
        | none =>
          have := (a.pres x u e e2).1
          rw [q] at this
          cases this
          exact .inr (.inr (.inr ⟨ts, rfl⟩))
        | some m => exact .inr (.inr (.inl fun z => nomatch z))

section
variable {K : PySem.W.Frag} {F F' H H' : Hp} {st st' : Sto} {σ : L2.St} {ε : Env}
theorem Rd.mono {a : Addr} {u : HO} (e : ∀ a o, F a = some o → F' a = some o) (h : Rd F a u) : Rd F' a u := by
  rcases h with h | ⟨o, h⟩
  · exact .inl (e _ _ h)
  · exact .inr ⟨o, e _ _ h⟩
theorem SqL.mono {a : Addr} {xs : List V} (e : ∀ a o, F a = some o → F' a = some o) (h : SqL K F a xs) : SqL K F' a xs := by
  rcases h with h | h
  · exact .inl (Rd.mono e h)
  · exact .inr h
theorem SqT.mono {a : Addr} {xs : List V} (e : ∀ a o, F a = some o → F' a = some o) (h : SqT K F a xs) : SqT K F' a xs := by
  rcases h with h | h
  · exact .inl (Rd.mono e h)
  · exact .inr h
mutual
theorem Rp.mono (e : ∀ a o, F a = some o → F' a = some o) : ∀ {v : V} {d : PyData}, Rp K F v d → Rp K F' v d
  | _, _, .non => .non
  | _, _, .bl b => .bl b
  | _, _, .int i => .int i
  | _, _, .str x => .str x
  | _, _, .lst h q => .lst (SqL.mono e h) (RpAll.mono e q)
  | _, _, .tup h q => .tup (e _ _ h) (RpAll.mono e q)
theorem RpAll.mono (e : ∀ a o, F a = some o → F' a = some o) : ∀ {vs : List V} {ds : List PyData}, RpAll K F vs ds → RpAll K F' vs ds
  | _, _, .nil => .nil
  | _, _, .cons h q => .cons (Rp.mono e h) (RpAll.mono e q)
end
mutual
theorem Rp.dp (e : ∀ a o, F a = some o → H a = some o) : ∀ {v : V} {d : PyData}, Rp K F v d → Dp K H v d
  | _, _, .non => .non
  | _, _, .bl b => .bl b
  | _, _, .int i => .int i
  | _, _, .str x => .str x
  | _, _, .lst h q => .lst (SqL.mono e h) (RpAll.dp e q)
  | _, _, .tup h q => .tup (SqT.of (e _ _ h)) (RpAll.dp e q)
theorem RpAll.dp (e : ∀ a o, F a = some o → H a = some o) : ∀ {vs : List V} {ds : List PyData}, RpAll K F vs ds → DpAll K H vs ds
  | _, _, .nil => .nil
  | _, _, .cons h q => .cons (Rp.dp e h) (RpAll.dp e q)
end
mutual
theorem RV.mono (e : ∀ a o, F a = some o → F' a = some o) : ∀ {v : V} {x : DV}, RV K F v x → RV K F' v x
  | _, _, .d h => .d (Rp.mono e h)
  | _, _, .r a => .r a
  | _, _, .t h q => .t (e _ _ h) (RVs.mono e q)
theorem RVs.mono (e : ∀ a o, F a = some o → F' a = some o) : ∀ {vs : List V} {xs : List DV}, RVs K F vs xs → RVs K F' vs xs
  | _, _, .nil => .nil
  | _, _, .cons h q => .cons (RV.mono e h) (RVs.mono e q)
end
theorem RVs.length : ∀ {vs : List V} {xs : List DV}, RVs K F vs xs → vs.length = xs.length
  | _, _, .nil => rfl
  | _, _, .cons _ q => congrArg (· + 1) (RVs.length q)
theorem RVs.append : ∀ {vs ws : List V} {xs ys : List DV}, RVs K F vs xs → RVs K F ws ys → RVs K F (vs ++ ws) (xs ++ ys)
  | _, _, _, _, .nil, h => h
  | _, _, _, _, .cons h q, k => .cons h (RVs.append q k)
theorem RVs.get : ∀ {vs : List V} {xs : List DV} {i : Nat} {v : V}, RVs K F vs xs → vs[i]? = some v → ∃ x, xs[i]? = some x ∧ RV K F v x
  | _, _, _, _, .nil, e => by simp at e
  | _, _, 0, _, .cons r _, e => by simp at e; subst e; exact ⟨_, rfl, r⟩
  | _, _, i + 1, v, .cons _ t, e => by
    obtain ⟨u, h1, h2⟩ := RVs.get (i := i) (v := v) t (by simpa using e)
    exact ⟨u, by simpa using h1, h2⟩
theorem RVs.get' : ∀ {vs : List V} {xs : List DV} {i : Nat} {x : DV}, RVs K F vs xs → xs[i]? = some x → ∃ v, vs[i]? = some v ∧ RV K F v x
  | _, _, _, _, .nil, e => by simp at e
  | _, _, 0, _, .cons r _, e => by simp at e; subst e; exact ⟨_, rfl, r⟩
  | _, _, i + 1, x, .cons _ t, e => by
    obtain ⟨u, h1, h2⟩ := RVs.get' (i := i) (x := x) t (by simpa using e)
    exact ⟨u, by simpa using h1, h2⟩
theorem RVs.take : ∀ {vs : List V} {xs : List DV} (n : Nat), RVs K F vs xs → RVs K F (vs.take n) (xs.take n)
  | _, _, 0, _ => .nil
  | _, _, _ + 1, .nil => .nil
  | _, _, n + 1, .cons r t => .cons r (RVs.take n t)
theorem RVs.drop : ∀ {vs : List V} {xs : List DV} (n : Nat), RVs K F vs xs → RVs K F (vs.drop n) (xs.drop n)
  | _, _, 0, r => r
  | _, _, _ + 1, .nil => .nil
  | _, _, n + 1, .cons _ t => RVs.drop n t
theorem RVs.set {v : V} {x : DV} (r : RV K F v x) : ∀ {vs : List V} {xs : List DV} (i : Nat), RVs K F vs xs → RVs K F (vs.set i v) (xs.set i x)
  | _, _, _, .nil => .nil
  | _, _, 0, .cons _ t => .cons r t
  | _, _, i + 1, .cons q t => .cons q (RVs.set r i t)
theorem RpAll.rvs : ∀ {vs : List V} {ds : List PyData}, RpAll K F vs ds → RVs K F vs (ds.map .d)
  | _, _, .nil => .nil
  | _, _, .cons h q => .cons (.d h) (RpAll.rvs q)
def datas : List DV → Option (List PyData)
  | [] => some []
  | .d x :: r => (datas r).map (x :: ·)
  | .r _ :: _ => none
  | .t _ :: _ => none
theorem datas_map : ∀ l : List PyData, datas (l.map .d) = some l
  | [] => rfl
  | x :: r => by simp [datas, datas_map r]
theorem datas_eq : ∀ {xs : List DV} {ds : List PyData}, datas xs = some ds → xs = ds.map .d
  | [], _, h => by cases h; rfl
  | .d x :: r, ds, h => by
    cases e : datas r with
    | none => simp [datas, e] at h
    | some l => simp [datas, e] at h; subst h; simp [← datas_eq e]
theorem RVs.all : ∀ {vs : List V} {ds : List PyData}, RVs K F vs (ds.map .d) → RpAll K F vs ds
  | _, [], h => by cases h; exact .nil
  | _, d :: ds, h => by
    cases h with
    | cons a b =>
      cases a with
      | d a => exact .cons a (RVs.all b)
theorem RE.mono (e : ∀ a o, F a = some o → F' a = some o) (h : RE K F σ ε) : RE K F' σ ε := ⟨h.1, fun i x q => let ⟨v, a, b⟩ := h.2 i x q; ⟨v, a, RV.mono e b⟩⟩
theorem RE.set {v : V} {x : DV} (h : RE K F σ ε) (r : RV K F v x) (i : Nat) : RE K F (σ.set i (some v)) (ε.set i (some x)) := by
  refine ⟨by rw [List.length_set, List.length_set]; exact h.1, fun j y q => ?_⟩
  by_cases e : i = j
  · subst e
    by_cases hl : i < ε.length
    · rw [List.getElem?_set_self hl] at q
      cases q
      exact ⟨v, by rw [List.getElem?_set_self (by rw [h.1]; exact hl)], r⟩
    · rw [List.getElem?_eq_none (by rw [List.length_set]; omega)] at q
      cases q
  · rw [List.getElem?_set_ne e] at q ⊢
    exact h.2 j y q
def wipeD (ε : Env) : List Nat → Env
  | [] => ε
  | v :: vs => (wipeD ε vs).set v none
theorem RE.setN (h : RE K F σ ε) (i : Nat) : RE K F (σ.set i none) (ε.set i none) := by
  refine ⟨by rw [List.length_set, List.length_set]; exact h.1, fun j y q => ?_⟩
  by_cases e : i = j
  · subst e
    by_cases hl : i < ε.length
    · rw [List.getElem?_set_self hl] at q
      cases q
    · rw [List.getElem?_eq_none (by rw [List.length_set]; omega)] at q
      cases q
  · rw [List.getElem?_set_ne e] at q ⊢
    exact h.2 j y q
theorem RE.wipe (h : RE K F σ ε) : ∀ vs : List Nat, RE K F (wipe σ vs) (wipeD ε vs)
  | [] => h
  | v :: vs => RE.setN (RE.wipe h vs) v
theorem MOk.mono (e : ∀ a o, F a = some o → F' a = some o) {a : Addr} (hh : H' a = H a) : ∀ {m : MO}, MOk K F H a m → MOk K F' H' a m
  | .lst _, ⟨vs, h, q⟩ => ⟨vs, hh.trans h, RVs.mono e q⟩
  | .dK _, ⟨vs, h, q⟩ => ⟨vs, hh.trans h, Paired.mapP q fun _ _ z => ⟨z.1, RV.mono e z.2⟩⟩
  | .dT _, ⟨vs, h, q⟩ => ⟨vs, hh.trans h, Paired.mapP q fun _ _ z => ⟨z.1, RV.mono e z.2⟩⟩
  | .ins _ _, ⟨dx, vs, h, q⟩ => ⟨dx, vs, hh.trans h, Paired.mapP q fun _ _ z => ⟨z.1, RV.mono e z.2⟩⟩
theorem MOk.some {a : Addr} {m : MO} (h : MOk K F H a m) : ∃ o, H a = some o := by
  cases m with
  | lst _ => obtain ⟨_, h, _⟩ := h; exact ⟨_, h⟩
  | dK _ => obtain ⟨_, h, _⟩ := h; exact ⟨_, h⟩
  | dT _ => obtain ⟨_, h, _⟩ := h; exact ⟨_, h⟩
  | ins _ _ => obtain ⟨_, _, h, _⟩ := h; exact ⟨_, h⟩
theorem Rs.free (R : Rs K F H st) {p : Addr} (hp : H p = none) : F p = none ∧ st p = none := by
  constructor
  · cases e : F p with
    | none => rfl
    | some o => rw [(R.sub p o e).1] at hp; cases hp
  · cases e : st p with
    | none => rfl
    | some m => obtain ⟨o, q⟩ := (R.ok p m e).some; rw [hp] at q; cases q
/-- a new frozen object -/
theorem Rs.frz (R : Rs K F H st) {p : Addr} {o : HO} (hp : H p = none) : Rs K (upd F p o) (upd H p o) st ∧ Step F H st (upd F p o) (upd H p o) st := by
  obtain ⟨f0, s0⟩ := R.free hp
  have e : ∀ a u, F a = some u → upd F p o a = some u := fun a u h => by
    rw [upd_ne (fun q => by rw [q, f0] at h; cases h)]; exact h
  refine ⟨⟨fun a u h => ?_, fun a m h => ?_⟩, ⟨e, fun a u h k => ⟨?_, k⟩, fun a u h => ?_⟩⟩
  · by_cases q : a = p
    · subst q; rw [upd_same] at h ⊢; exact ⟨h, s0⟩
    · rw [upd_ne q] at h ⊢; exact R.sub a u h
  · refine MOk.mono e ?_ (R.ok a m h)
    exact upd_ne fun q => by rw [q, s0] at h; cases h
  · rw [upd_ne (fun q => by rw [q, hp] at h; cases h)]; exact h
  · by_cases q : a = p
    · subst q; exact .inr (.inl hp)
    · rw [upd_ne q] at h; exact .inl (by rw [h]; exact fun z => nomatch z)
/-- a new hidden object, neither frozen nor in the store -/
theorem Rs.hide (R : Rs K F H st) {p : Addr} {o : HO} (hp : H p = none) : Rs K F (upd H p o) st ∧ Step F H st F (upd H p o) st := by
  obtain ⟨f0, s0⟩ := R.free hp
  refine ⟨⟨fun a u h => ?_, fun a m h => ?_⟩, ⟨fun _ _ h => h, fun a u h k => ⟨?_, k⟩, fun a u h => .inl (by rw [h]; exact fun z => nomatch z)⟩⟩
  · rw [upd_ne (fun q => by rw [q, f0] at h; cases h)]; exact R.sub a u h
  · refine MOk.mono (fun _ _ z => z) ?_ (R.ok a m h)
    exact upd_ne fun q => by rw [q, s0] at h; cases h
  · rw [upd_ne (fun q => by rw [q, hp] at h; cases h)]; exact h
/-- a new object of the store -/
theorem Rs.new (R : Rs K F H st) {p : Addr} {o : HO} {m : MO} (hp : H p = none) (hm : MOk K F (upd H p o) p m) : Rs K F (upd H p o) (up st p m) ∧ Step F H st F (upd H p o) (up st p m) := by
  obtain ⟨f0, s0⟩ := R.free hp
  refine ⟨⟨fun a u h => ?_, fun a m' h => ?_⟩, ⟨fun _ _ h => h, fun a u h k => ?_, fun a u h => .inl (by rw [h]; exact fun z => nomatch z)⟩⟩
  · have q : a ≠ p := fun q => by rw [q, f0] at h; cases h
    rw [upd_ne q, up_ne q]; exact R.sub a u h
  · by_cases q : a = p
    · subst q; rw [up_same] at h; cases h; exact hm
    · rw [up_ne q] at h; exact MOk.mono (fun _ _ z => z) (upd_ne q) (R.ok a m' h)
  · have q : a ≠ p := fun q => by rw [q, hp] at h; cases h
    rw [upd_ne q, up_ne q]; exact ⟨h, k⟩
/-- an object of the store written -/
theorem Rs.put (R : Rs K F H st) {p : Addr} {o : HO} {m m0 : MO} (h0 : st p = some m0) (hm : MOk K F (upd H p o) p m) : Rs K F (upd H p o) (up st p m) ∧ Step F H st F (upd H p o) (up st p m) := by
  have f0 : ∀ u, F p ≠ some u := fun u h => by rw [(R.sub p u h).2] at h0; cases h0
  refine ⟨⟨fun a u h => ?_, fun a m' h => ?_⟩, ⟨fun _ _ h => h, fun a u h k => ?_, fun a u h => .inl (by rw [h]; exact fun z => nomatch z)⟩⟩
  · have q : a ≠ p := fun q => f0 u (q ▸ h)
    rw [upd_ne q, up_ne q]; exact R.sub a u h
  · by_cases q : a = p
    · subst q; rw [up_same] at h; cases h; exact hm
    · rw [up_ne q] at h; exact MOk.mono (fun _ _ z => z) (upd_ne q) (R.ok a m' h)
  · have q : a ≠ p := fun q => by rw [q, h0] at k; cases k
    rw [upd_ne q, up_ne q]; exact ⟨h, k⟩
/-- a hidden object written -/
theorem Rs.hput (R : Rs K F H st) {p : Addr} {o : HO} (f0 : F p = none) (s0 : st p = none) : Rs K F (upd H p o) st := by
  refine ⟨fun a u h => ?_, fun a m' h => ?_⟩
  · have q : a ≠ p := fun q => by rw [q, f0] at h; cases h
    rw [upd_ne q]; exact R.sub a u h
  · have q : a ≠ p := fun q => by rw [q, s0] at h; cases h
    exact MOk.mono (fun _ _ z => z) (upd_ne q) (R.ok a m' h)
def Le (st st' : Sto) : Prop := ∀ a m, st a = some m → st' a = some m
theorem Le.refl (st : Sto) : Le st st := fun _ _ h => h
theorem Le.trans {a b c : Sto} (h : Le a b) (k : Le b c) : Le a c := fun x m q => k x m (h x m q)
theorem Le.up {a b : Sto} {p : Addr} {m : MO} (h : Le a b) (hp : a p = none) : Le a (up b p m) := fun x n q => by
  rw [up_ne (fun e => by rw [e, hp] at q; cases q)]; exact h x n q
theorem Rs.le (R : Rs K F H st') (h : Le st st') : Rs K F H st := ⟨fun a o q => ⟨(R.sub a o q).1, by
  cases e : st a with
  | none => rfl
  | some m =>
    have z := (R.sub a o q).2
    rw [h a m e] at z
    cases z⟩, fun a m q => R.ok a m (h a m q)⟩
end
end DL
end

section
set_option Elab.async false
set_option linter.all false
set_option maxRecDepth 100000
set_option maxHeartbeats 2000000
namespace DL
open PySem L2 PyProof.Rows

abbrev TD := Env → Sto → (DV → Sto → Prop) → Prop
abbrev TDt := Env → Sto → (Bool → Sto → Prop) → Prop
abbrev TDa := Env → Sto → (List DV → Sto → Prop) → Prop
abbrev R2D := DV → DV → Sto → (DV → Sto → Prop) → Prop
abbrev R1D := DV → Sto → (DV → Sto → Prop) → Prop
abbrev RLD := List DV → Sto → (DV → Sto → Prop) → Prop

/-- what is wanted of what comes out -/
def Kg {α β : Type} (rel : Hp → α → β → Prop) (K : PySem.W.Frag) (F H : Hp) (st : Sto) (Qd : β → Sto → Prop) (Q : α → Hp → Prop) : Prop :=
  ∀ F' a H' b st', Step F H st F' H' st' → Rs K F' H' st' → rel F' a b → Qd b st' → Q a H'
def Sg {α β : Type} (rel : Hp → α → β → Prop) (K : PySem.W.Frag) (te : L2.St → Hp → (α → Hp → Prop) → Prop) (t : Env → Sto → (β → Sto → Prop) → Prop) : Prop :=
  ∀ F σ H ε st Qd Q, Rs K F H st → RE K F σ ε → t ε st Qd → Kg rel K F H st Qd Q → te σ H Q
theorem Kg.at {α β : Type} {rel : Hp → α → β → Prop} {K : PySem.W.Frag} {F H : Hp} {st : Sto} {Qd : β → Sto → Prop} {Q : α → Hp → Prop} (k : Kg rel K F H st Qd Q) {a : α} {b : β} (R : Rs K F H st) (r : rel F a b) (q : Qd b st) : Q a H :=
  k F a H b st (Step.refl _ _ _) R r q
abbrev relT : Hp → Bool → Bool → Prop := fun _ a b => a = b
structure DE (X : Cx) (e : Expr) (t : TD) : Prop where
  ex : ∃ te, PE X e te ∧ Sg (RV X.K) X.K te t
structure DT (X : Cx) (e : Expr) (t : TDt) : Prop where
  ex : ∃ te, PT X e te ∧ Sg relT X.K te t
structure DW (X : Cx) (e : Expr) (t : TDt) : Prop where
  ex : ∃ te, PW X e te ∧ Sg relT X.K te t
structure DA (X : Cx) (es : List Expr) (t : TDa) : Prop where
  ex : ∃ te, PA X es te ∧ Sg (RVs X.K) X.K te t
/-- two values in, one out -/
def S2 (K : PySem.W.Frag) (r' : R2) (r : R2D) : Prop := ∀ F H st v w x y Qd Q, Rs K F H st → RV K F v x → RV K F w y → r x y st Qd → Kg (RV K) K F H st Qd Q → r' v w H Q
def S1 (K : PySem.W.Frag) (r' : V → Hp → VK → Prop) (r : R1D) : Prop := ∀ F H st v x Qd Q, Rs K F H st → RV K F v x → r x st Qd → Kg (RV K) K F H st Qd Q → r' v H Q
def SL (K : PySem.W.Frag) (r' : List V → Hp → VK → Prop) (r : RLD) : Prop := ∀ F H st vs xs Qd Q, Rs K F H st → RVs K F vs xs → r xs st Qd → Kg (RV K) K F H st Qd Q → r' vs H Q

/-- the context of a piece of a def's body -/
structure Cok (P : Program) (w : World) (K : PySem.W.Frag) (mg : Str → Option Value) (base : Heap) (X : Cx) (N : List Str) (sc fs : Scope) (k : Nat) : Prop where
  hP : X.prog = P
  hw : X.w = w
  hK : X.K = K
  hmg : X.mg = mg
  hb : X.base = base
  hN : X.N = N
  nd : N.Nodup
  kind : sc.kind = .function
  hs : X.env.scope = sc
  calm : X.calm = true
  fn : ∀ x, fs.names.lookup x = some .cell → X.fn x = true
  room : Room k X.A
  pass : PassesOwn (model X.prog X.w) X.A X.env X.xe

section
variable {P : Program} {w : World} {K : PySem.W.Frag} {mg : Str → Option Value} {base : Heap} {X : Cx} {N : List Str} {sc fs : Scope} {k : Nat}

/-! ### static facts of names -/
def visB (N : List Str) (sc : Scope) (i : Nat) (x : Str) : Bool :=
  decide (N[i]? = some x) && (match sc.names.lookup x with | some .local => true | some .cell => true | some .free => true | _ => false) && !(x == ("__debug__" : Str)) && !(x == ("__classdict__" : Str))
def locB (N : List Str) (sc fs : Scope) (i : Nat) (x : Str) : Bool :=
  decide (N[i]? = some x) && (match sc.names.lookup x with | some .local => true | some .cell => (match fs.names.lookup x with | some .cell => true | _ => false) | _ => false)
def glB (sc : Scope) (x : Str) : Bool := (match sc.names.lookup x with | some .globalImplicit => true | _ => false) && !(x == ("__debug__" : Str)) && !(x == ("__name__" : Str))

def qv (i : Nat) : TD := fun ε st Q => match ε[i]? with | some (some x) => Q x st | _ => False
theorem de_var {i : Nat} {x : Str} {pos : Pos} (c : Cok P w K mg base X N sc fs k) (h : visB N sc i x = true) : DE X (.Name x pos) (qv i) := by
  unfold visB at h
  simp only [Bool.and_eq_true, decide_eq_true_eq, Bool.not_eq_true'] at h
  obtain ⟨⟨⟨h1, h2⟩, h3⟩, h4⟩ := h
  refine ⟨⟨tVar i, pe_var (by rw [c.hN]; exact h1) ?_ h3 h4, fun F σ H ε st Qd Q R E q kk => ?_⟩⟩
  · unfold Vis
    rw [c.hs]
    split at h2 <;> first | exact .inl (by assumption) | exact .inr (.inl (by assumption)) | exact .inr (.inr (by assumption)) | cases h2
  · unfold qv at q
    split at q
    · rename_i x e
      obtain ⟨v, e2, r⟩ := E.2 i x e
      exact ⟨v, e2, kk.at R r q⟩
    · exact q.elim
def qc (x : DV) : TD := fun _ st Q => Q x st
theorem de_int {i j pos} : DE X (.Constant (.int i) j pos) (qc (.d (.int i))) := ⟨⟨_, pe_int, fun F σ H ε st Qd Q R E q kk => kk.at R (.d (.int i)) q⟩⟩
theorem de_bl {b j pos} : DE X (.Constant (.bool b) j pos) (qc (.d (.bool b))) := ⟨⟨_, pe_bl, fun F σ H ε st Qd Q R E q kk => kk.at R (.d (.bl b)) q⟩⟩
theorem de_non {j pos} : DE X (.Constant .none j pos) (qc (.d .none)) := ⟨⟨_, pe_non, fun F σ H ε st Qd Q R E q kk => kk.at R (.d .non) q⟩⟩
theorem de_str {x j pos} : DE X (.Constant (.str x) j pos) (qc (.d (.str x))) := ⟨⟨_, pe_str, fun F σ H ε st Qd Q R E q kk => kk.at R (.d (.str x)) q⟩⟩

/-! ### two parts in a row -/
theorem Sg.bin {α β γ δ ξ ζ : Type} {rel1 : Hp → α → β → Prop} {rel2 : Hp → γ → δ → Prop} {rel3 : Hp → ξ → ζ → Prop} {ta : L2.St → Hp → (α → Hp → Prop) → Prop} {tb : L2.St → Hp → (γ → Hp → Prop) → Prop}
    {da : Env → Sto → (β → Sto → Prop) → Prop} {db : Env → Sto → (δ → Sto → Prop) → Prop} {r' : α → γ → Hp → (ξ → Hp → Prop) → Prop} {r : β → δ → Sto → (ζ → Sto → Prop) → Prop}
    (sa : Sg rel1 K ta da) (sb : Sg rel2 K tb db) (mono : ∀ F F' a b, (∀ x o, F x = some o → F' x = some o) → rel1 F a b → rel1 F' a b)
    (hs : ∀ F H st v w x y Qd Q, Rs K F H st → rel1 F v x → rel2 F w y → r x y st Qd → Kg rel3 K F H st Qd Q → r' v w H Q) :
    Sg rel3 K (fun σ H Q => ta σ H fun x H1 => tb σ H1 fun y H2 => r' x y H2 Q) (fun ε st Q => da ε st fun x s1 => db ε s1 fun y s2 => r x y s2 Q) := by
  intro F σ H ε st Qd Q R E h kk
  refine sa F σ H ε st _ _ R E h fun F1 v H1 x s1 t1 R1 rv q => ?_
  refine sb F1 σ H1 ε s1 _ _ R1 (E.mono t1.ex) q fun F2 u H2 y s2 t2 R2 ru q2 => ?_
  exact hs F2 H2 s2 v u x y _ _ R2 (mono _ _ _ _ t2.ex rv) ru q2 fun F3 z H3 z' s3 t3 R3 rz q3 => kk F3 z H3 z' s3 ((t1.trans t2).trans t3) R3 rz q3
theorem monoV {F F' : Hp} {a : V} {b : DV} (e : ∀ x o, F x = some o → F' x = some o) (h : RV K F a b) : RV K F' a b := RV.mono e h

def qOp (r : R2D) (ta tb : TD) : TD := fun ε st Q => ta ε st fun x s1 => tb ε s1 fun y s2 => r x y s2 Q
theorem de_op {op : Operator} {a b : Expr} {pos : Pos} {ta tb : TD} {r' : R2} {r : R2D} (ho : OpR X (binaryOp op) r') (hs : S2 X.K r' r) (ha : DE X a ta) (hb : DE X b tb) : DE X (.BinOp a op b pos) (qOp r ta tb) := by
  obtain ⟨te, pa, sa⟩ := ha
  obtain ⟨tf, pb, sb⟩ := hb
  exact ⟨⟨_, pe_op ho pa pb, Sg.bin sa sb (fun _ _ _ _ e h => RV.mono e h) hs⟩⟩
theorem de_cmp {op : CmpOp} {a b : Expr} {pos : Pos} {ta tb : TD} {r' : R2} {r : R2D} (ho : OpR X (compareOp op) r') (hs : S2 X.K r' r) (hm : behindInMarks op b = false) (ha : DE X a ta) (hb : DE X b tb) : DE X (.Compare a [op] [b] pos) (qOp r ta tb) := by
  obtain ⟨te, pa, sa⟩ := ha
  obtain ⟨tf, pb, sb⟩ := hb
  exact ⟨⟨_, pe_cmpR ho pa pb hm, Sg.bin sa sb (fun _ _ _ _ e h => RV.mono e h) hs⟩⟩
def qUn (r : R1D) (ta : TD) : TD := fun ε st Q => ta ε st fun x s1 => r x s1 Q
theorem Sg.go {α β γ δ : Type} {rel1 : Hp → α → β → Prop} {rel3 : Hp → γ → δ → Prop} {ta : L2.St → Hp → (α → Hp → Prop) → Prop} {da : Env → Sto → (β → Sto → Prop) → Prop} {F H : Hp} {σ : L2.St} {ε : Env} {st : Sto} {G : β → Sto → Prop} {W : α → Hp → Prop}
    {Qd : δ → Sto → Prop} {Q : γ → Hp → Prop} (sa : Sg rel1 K ta da) (R : Rs K F H st) (E : RE K F σ ε) (h : da ε st G) (kk : Kg rel3 K F H st Qd Q)
    (hs : ∀ F1 H1 s1 v x, Rs K F1 H1 s1 → RE K F1 σ ε → rel1 F1 v x → G x s1 → Kg rel3 K F1 H1 s1 Qd Q → W v H1) : ta σ H W := by
  refine sa F σ H ε st _ _ R E h fun F1 v H1 x s1 t1 R1 rv q => ?_
  exact hs F1 H1 s1 v x R1 (E.mono t1.ex) rv q fun F3 z H3 z' s3 t3 R3 rz q3 => kk F3 z H3 z' s3 (t1.trans t3) R3 rz q3
theorem de_un {op : UnaryOp} {a : Expr} {pos : Pos} {ta : TD} {r' : V → Hp → VK → Prop} {r : R1D} (ho : UnR X (unaryOp op) r') (hs : S1 X.K r' r) (ha : DE X a ta) : DE X (.UnaryOp op a pos) (qUn r ta) := by
  obtain ⟨te, pa, sa⟩ := ha
  exact ⟨⟨_, pe_un ho pa, fun F σ H ε st Qd Q R E h kk => sa.go R E h kk fun F1 H1 s1 v x R1 E1 rv q kk => hs F1 H1 s1 v x _ _ R1 rv q kk⟩⟩

/-! ### tests -/
def onB (Q : Bool → Sto → Prop) : DV → Sto → Prop
  | .d (.bool b), s => Q b s
  | _, _ => False
theorem onB_out {Q : Bool → Sto → Prop} {x : DV} {s : Sto} (h : onB Q x s) : ∃ b, x = .d (.bool b) ∧ Q b s := by
  unfold onB at h
  split at h
  · exact ⟨_, rfl, h⟩
  · exact h.elim
def qTest (ta : TD) : TDt := fun ε st Q => ta ε st (onB Q)
theorem dt_val {e : Expr} {ta : TD} (ha : DE X e ta) (he : ∀ whole, isTrue e X.env whole = (do let v ← whole; standAt e.pos; holding [v] (truthy v)) := by intro _; rfl) : DT X e (qTest ta) := by
  obtain ⟨te, pa, sa⟩ := ha
  refine ⟨⟨_, pt_val pa he, fun F σ H ε st Qd Q R E h kk => sa.go R E h kk fun F1 H1 s1 v x R1 E1 rv q kk => ?_⟩⟩
  obtain ⟨b, e, q⟩ := onB_out q
  subst e
  cases rv with
  | d rv => cases rv; exact ⟨b, rfl, kk.at R1 rfl q⟩
def qNotT (t : TDt) : TDt := fun ε st Q => t ε st fun b s1 => Q (!b) s1
theorem dt_not {a : Expr} {pos : Pos} {t : TDt} (ha : DT X a t) : DT X (.UnaryOp .Not a pos) (qNotT t) := by
  obtain ⟨te, pa, sa⟩ := ha
  refine ⟨⟨_, pt_not pa, fun F σ H ε st Qd Q R E h kk => sa.go R E h kk fun F1 H1 s1 v x R1 E1 rv q kk => ?_⟩⟩
  cases rv
  exact kk.at R1 rfl q
def qAndT (t u : TDt) : TDt := fun ε st Q => t ε st fun b s1 => if b = true then u ε s1 Q else Q false s1
def qOrT (t u : TDt) : TDt := fun ε st Q => t ε st fun b s1 => if b = true then Q true s1 else u ε s1 Q
theorem DW.pt {e : Expr} {t : TDt} (h : DW X e t) : DT X e t := let ⟨te, p, s⟩ := h.ex; ⟨⟨te, p.pt, s⟩⟩
theorem dw_and1 {a : Expr} {pos : Pos} {t : TDt} (ha : DT X a t) : DW X (.BoolOp .And [a] pos) t := let ⟨te, p, s⟩ := ha.ex; ⟨⟨te, pw_and1 p, s⟩⟩
theorem dw_or1 {a : Expr} {pos : Pos} {t : TDt} (ha : DT X a t) : DW X (.BoolOp .Or [a] pos) t := let ⟨te, p, s⟩ := ha.ex; ⟨⟨te, pw_or1 p, s⟩⟩
theorem dw_and {a b : Expr} {rest : List Expr} {pos : Pos} {t u : TDt} (ha : DT X a t) (hb : DW X (.BoolOp .And (b :: rest) pos) u) : DW X (.BoolOp .And (a :: b :: rest) pos) (qAndT t u) := by
  obtain ⟨te, pa, sa⟩ := ha
  obtain ⟨tf, pb, sb⟩ := hb
  refine ⟨⟨_, pw_and pa pb, fun F σ H ε st Qd Q R E h kk => ?_⟩⟩
  refine sa F σ H ε st _ _ R E h fun F1 v H1 x s1 t1 R1 rv q => ?_
  cases rv
  cases v with
  | true => exact sb F1 σ H1 ε s1 _ _ R1 (E.mono t1.ex) q fun F3 z H3 z' s3 t3 R3 rz q3 => kk F3 z H3 z' s3 (t1.trans t3) R3 rz q3
  | false => exact kk F1 _ H1 _ s1 t1 R1 rfl q
theorem dw_or {a b : Expr} {rest : List Expr} {pos : Pos} {t u : TDt} (ha : DT X a t) (hb : DW X (.BoolOp .Or (b :: rest) pos) u) : DW X (.BoolOp .Or (a :: b :: rest) pos) (qOrT t u) := by
  obtain ⟨te, pa, sa⟩ := ha
  obtain ⟨tf, pb, sb⟩ := hb
  refine ⟨⟨_, pw_or pa pb, fun F σ H ε st Qd Q R E h kk => ?_⟩⟩
  refine sa F σ H ε st _ _ R E h fun F1 v H1 x s1 t1 R1 rv q => ?_
  cases rv
  cases v with
  | false => exact sb F1 σ H1 ε s1 _ _ R1 (E.mono t1.ex) q fun F3 z H3 z' s3 t3 R3 rz q3 => kk F3 z H3 z' s3 (t1.trans t3) R3 rz q3
  | true => exact kk F1 _ H1 _ s1 t1 R1 rfl q
/-- and, or, not as values -/
def qAndV (ta tb : TD) : TD := fun ε st Q => ta ε st (onB fun b s1 => if b = true then tb ε s1 Q else Q (.d (.bool false)) s1)
def qOrV (ta tb : TD) : TD := fun ε st Q => ta ε st (onB fun b s1 => if b = true then Q (.d (.bool true)) s1 else tb ε s1 Q)
def qNotV (ta : TD) : TD := fun ε st Q => ta ε st (onB fun b s1 => Q (.d (.bool (!b))) s1)
theorem de_one {op} {a : Expr} {pos : Pos} {t : TD} (h : DE X a t) : DE X (.BoolOp op [a] pos) t := let ⟨te, p, s⟩ := h.ex; ⟨⟨te, pe_one p, s⟩⟩
theorem de_and {a b : Expr} {rest : List Expr} {pos : Pos} {ta tb : TD} (ha : DE X a ta) (hb : DE X (.BoolOp .And (b :: rest) pos) tb) : DE X (.BoolOp .And (a :: b :: rest) pos) (qAndV ta tb) := by
  obtain ⟨te, pa, sa⟩ := ha
  obtain ⟨tf, pb, sb⟩ := hb
  refine ⟨⟨_, pe_and pa pb, fun F σ H ε st Qd Q R E h kk => ?_⟩⟩
  refine sa F σ H ε st _ _ R E h fun F1 v H1 x s1 t1 R1 rv q => ?_
  obtain ⟨b, rfl, q⟩ := onB_out q
  cases rv with
  | d rv =>
    cases rv
    refine ⟨b, rfl, ?_⟩
    cases b with
    | true => exact sb F1 σ H1 ε s1 _ _ R1 (E.mono t1.ex) q fun F3 z H3 z' s3 t3 R3 rz q3 => kk F3 z H3 z' s3 (t1.trans t3) R3 rz q3
    | false => exact kk F1 _ H1 _ s1 t1 R1 (.d (.bl false)) q
theorem de_or {a b : Expr} {rest : List Expr} {pos : Pos} {ta tb : TD} (ha : DE X a ta) (hb : DE X (.BoolOp .Or (b :: rest) pos) tb) : DE X (.BoolOp .Or (a :: b :: rest) pos) (qOrV ta tb) := by
  obtain ⟨te, pa, sa⟩ := ha
  obtain ⟨tf, pb, sb⟩ := hb
  refine ⟨⟨_, pe_or pa pb, fun F σ H ε st Qd Q R E h kk => ?_⟩⟩
  refine sa F σ H ε st _ _ R E h fun F1 v H1 x s1 t1 R1 rv q => ?_
  obtain ⟨b, rfl, q⟩ := onB_out q
  cases rv with
  | d rv =>
    cases rv
    refine ⟨b, rfl, ?_⟩
    cases b with
    | false => exact sb F1 σ H1 ε s1 _ _ R1 (E.mono t1.ex) q fun F3 z H3 z' s3 t3 R3 rz q3 => kk F3 z H3 z' s3 (t1.trans t3) R3 rz q3
    | true => exact kk F1 _ H1 _ s1 t1 R1 (.d (.bl true)) q
theorem de_not {a : Expr} {pos : Pos} {ta : TD} (ha : DE X a ta) : DE X (.UnaryOp .Not a pos) (qNotV ta) := by
  obtain ⟨te, pa, sa⟩ := ha
  refine ⟨⟨_, pe_not pa, fun F σ H ε st Qd Q R E h kk => sa.go R E h kk fun F1 H1 s1 v x R1 E1 rv q kk => ?_⟩⟩
  obtain ⟨b, e, q⟩ := onB_out q
  subst e
  cases rv with
  | d rv => cases rv; exact ⟨b, rfl, kk.at R1 (.d (.bl _)) q⟩
def qIf (t : TDt) (ta tb : TD) : TD := fun ε st Q => t ε st fun b s1 => if b = true then ta ε s1 Q else tb ε s1 Q
theorem de_if {c a b : Expr} {pos : Pos} {t : TDt} {ta tb : TD} (hc : DT X c t) (ha : DE X a ta) (hb : DE X b tb) : DE X (.IfExp c a b pos) (qIf t ta tb) := by
  obtain ⟨tc, pc, sc'⟩ := hc
  obtain ⟨te, pa, sa⟩ := ha
  obtain ⟨tf, pb, sb⟩ := hb
  refine ⟨⟨_, pe_ifExp pc pa pb, fun F σ H ε st Qd Q R E h kk => ?_⟩⟩
  refine sc' F σ H ε st _ _ R E h fun F1 v H1 x s1 t1 R1 rv q => ?_
  cases rv
  cases v with
  | true => exact sa F1 σ H1 ε s1 _ _ R1 (E.mono t1.ex) q fun F3 z H3 z' s3 t3 R3 rz q3 => kk F3 z H3 z' s3 (t1.trans t3) R3 rz q3
  | false => exact sb F1 σ H1 ε s1 _ _ R1 (E.mono t1.ex) q fun F3 z H3 z' s3 t3 R3 rz q3 => kk F3 z H3 z' s3 (t1.trans t3) R3 rz q3
/-- a < b < c -/
def qChain (r r2 : R2D) (ta tb tc : TD) : TD := fun ε st Q => ta ε st fun x s1 => tb ε s1 fun y s2 => r x y s2 (onB fun b s3 => if b = true then tc ε s3 fun u s4 => r2 y u s4 Q else Q (.d (.bool false)) s3)
theorem chain_sim {r1 r2 : R2} {d1 d2 : R2D} {te tf tg : TE} {ta tb tc : TD} (h1 : S2 K r1 d1) (h2 : S2 K r2 d2) (sa : Sg (RV K) K te ta) (sb : Sg (RV K) K tf tb) (sc' : Sg (RV K) K tg tc) : Sg (RV K) K (tChain r1 r2 te tf tg) (qChain d1 d2 ta tb tc) := by
  intro F σ H ε st Qd Q R E h kk
  refine sa F σ H ε st _ _ R E h fun F1 v H1 x s1 t1 R1 rv q => ?_
  refine sb F1 σ H1 ε s1 _ _ R1 (E.mono t1.ex) q fun F2 u H2 y s2 t2 R2 ru q2 => ?_
  refine h1 F2 H2 s2 v u x y _ _ R2 (rv.mono t2.ex) ru q2 fun F3 z H3 z' s3 t3 R3 rz q3 => ?_
  obtain ⟨b, rfl, q3⟩ := onB_out q3
  cases rz with
  | d rz =>
    cases rz
    refine ⟨b, rfl, ?_⟩
    have t123 := (t1.trans t2).trans t3
    cases b with
    | true =>
      refine sc' F3 σ H3 ε s3 _ _ R3 (E.mono t123.ex) q3 fun F4 a4 H4 b4 s4 t4 R4 r4 q4 => ?_
      exact h2 F4 H4 s4 u a4 y b4 _ _ R4 (ru.mono (t3.trans t4).ex) r4 q4 fun F5 z H5 z' s5 t5 R5 rz q5 => kk F5 z H5 z' s5 ((t123.trans t4).trans t5) R5 rz q5
    | false => exact kk F3 _ H3 _ s3 t123 R3 (.d (.bl false)) q3

theorem de_chain {op op' : CmpOp} {a b c : Expr} {pos : Pos} {ta tb tc : TD} {r1 r2 : R2} {d1 d2 : R2D} (ho : OpR X (compareOp op) r1) (h1 : S2 X.K r1 d1) (ho2 : OpR X (compareOp op') r2) (h2 : S2 X.K r2 d2)
    (ha : DE X a ta) (hb : DE X b tb) (hc : DE X c tc) (hp : ∀ t1 t2 t3, PE X a t1 → PE X b t2 → PE X c t3 → PE X (.Compare a [op, op'] [b, c] pos) (tChain r1 r2 t1 t2 t3)) : DE X (.Compare a [op, op'] [b, c] pos) (qChain d1 d2 ta tb tc) := by
  obtain ⟨te, pa, sa⟩ := ha
  obtain ⟨tf, pb, sb⟩ := hb
  obtain ⟨tg, pc, sc'⟩ := hc
  refine ⟨⟨_, hp _ _ _ pa pb pc, chain_sim h1 h2 sa sb sc'⟩⟩

/-! ### argument lists, displays -/
def qNil : TDa := fun _ st Q => Q [] st
def qCons (ta : TD) (tr : TDa) : TDa := fun ε st Q => ta ε st fun x s1 => tr ε s1 fun xs s2 => Q (x :: xs) s2
theorem da_nil : DA X [] qNil := ⟨⟨_, pa_nil, fun F σ H ε st Qd Q R E q kk => kk.at R .nil q⟩⟩
theorem da_cons {e : Expr} {es : List Expr} {t : TD} {u : TDa} (h : DE X e t) (hr : DA X es u) (hs : starEach (e :: es) X.env = (false, eval e X.env) :: starEach es X.env := by rfl) : DA X (e :: es) (qCons t u) := by
  obtain ⟨te, pa, sa⟩ := h
  obtain ⟨tf, pb, sb⟩ := hr
  exact ⟨⟨_, pa_cons pa pb hs, Sg.bin (r' := fun x xs H Q => Q (x :: xs) H) (r := fun x xs st Q => Q (x :: xs) st) sa sb (fun _ _ _ _ e h => RV.mono e h) fun F H st v w x y Qd Q R rv rw q kk => kk.at R (.cons rv rw) q⟩⟩

theorem Rs.ex (F H : Hp) (st : Sto) (R : Rs K F H st) : ∀ a o, F a = some o → H a = some o := fun a o h => (R.sub a o h).1

def mkT (xs : List DV) : DV := match datas xs with | some ds => .d (.tuple ds) | none => .t xs
theorem mkT_rv {F : Hp} {vs : List V} {xs : List DV} {p : Addr} (h : F p = some (.tup vs)) (r : RVs K F vs xs) : RV K F (.ref p) (mkT xs) := by
  unfold mkT
  cases e : datas xs with
  | some ds =>
    have e2 := datas_eq e
    subst e2
    exact .d (.tup h r.all)
  | none => exact .t h r
/-- a new tuple -/
theorem new_tup {F H : Hp} {st : Sto} {vs : List V} {xs : List DV} {p : Addr} {Qd : DV → Sto → Prop} {Q : VK} (R : Rs K F H st) (r : RVs K F vs xs) (hp : H p = none) (q : Qd (mkT xs) st) (kk : Kg (RV K) K F H st Qd Q) : Q (.ref p) (upd H p (.tup vs)) := by
  obtain ⟨R', t⟩ := R.frz (o := .tup vs) hp
  exact kk _ _ _ _ _ t R' (mkT_rv upd_same (r.mono t.ex)) q
/-- a new list: tracked (m) or frozen -/
def newL (m : Bool) (xs : List DV) (st : Sto) (Q : DV → Sto → Prop) : Prop := match m with
  | true => ∀ p, st p = none → Q (.r p) (up st p (.lst xs))
  | false => match datas xs with | some ds => Q (.d (.list ds)) st | none => False
theorem new_lst {F H : Hp} {st : Sto} {vs : List V} {xs : List DV} {m : Bool} {p : Addr} {Qd : DV → Sto → Prop} {Q : VK} (R : Rs K F H st) (r : RVs K F vs xs) (hp : H p = none) (q : newL m xs st Qd) (kk : Kg (RV K) K F H st Qd Q) : Q (.ref p) (upd H p (.lst vs)) := by
  cases m with
  | true =>
    obtain ⟨R', t⟩ := R.new (o := .lst vs) (m := .lst xs) hp ⟨vs, upd_same, r⟩
    exact kk _ _ _ _ _ t R' (.r p) (q p (R.free hp).2)
  | false =>
    unfold newL at q
    simp only at q
    split at q
    rotate_left
    · exact q.elim
    rename_i ds ed
    have ed2 := datas_eq ed
    subst ed2
    obtain ⟨R', t⟩ := R.frz (o := .lst vs) hp
    exact kk _ _ _ _ _ t R' (.d (.lst (SqL.of upd_same) (r.mono t.ex).all)) q
def qTup (t : TDa) : TD := fun ε st Q => t ε st fun xs s1 => xs.length ≤ sizeLine ∧ Q (mkT xs) s1
def qLst (m : Bool) (t : TDa) : TD := fun ε st Q => t ε st fun xs s1 => xs.length ≤ sizeLine ∧ newL m xs s1 Q
theorem de_tup {es : List Expr} {j : Nat} {pos : Pos} {t : TDa} (h : DA X es t) : DE X (.Tuple es j pos) (qTup t) := by
  obtain ⟨te, pa, sa⟩ := h
  refine ⟨⟨_, pe_tup pa, fun F σ H ε st Qd Q R E h kk => sa.go R E h kk fun F1 H1 s1 v x R1 E1 rv q kk => ?_⟩⟩
  exact ⟨by rw [rv.length]; exact q.1, fun p hp => new_tup R1 rv hp q.2 kk⟩
theorem de_lst {es : List Expr} {pos : Pos} {t : TDa} (m : Bool) (h : DA X es t) : DE X (.List es pos) (qLst m t) := by
  obtain ⟨te, pa, sa⟩ := h
  refine ⟨⟨_, pe_lst pa, fun F σ H ε st Qd Q R E h kk => sa.go R E h kk fun F1 H1 s1 v x R1 E1 rv q kk => ?_⟩⟩
  exact ⟨by rw [rv.length]; exact q.1, fun p hp => new_lst R1 rv hp q.2 kk⟩
end
end DL
end

section
set_option Elab.async false
set_option linter.all false
set_option maxRecDepth 100000
set_option maxHeartbeats 4000000
namespace DL
open PySem L2 PyProof.Rows HT

/-! ### tuple * int of any int, list + list that are read -/
section
variable {prog : Program} {w : World} {A : Around} {E : Value → Shared → Prop} {s : Shared}
theorem tuple_mul_same (l : Addr) (items : Array Value) (n : Nat) (dd : Option Addr) (sl : Array (Option Value)) (x : Int) (u : Tok) (c0 : (decide (x < -(2 ^ 63)) || decide (x ≥ 2 ^ 63)) = false) (c1 : (items.isEmpty || x == 1) = true) :
    Meets (Builtin.«tuple.__mul__» ⟨[.ref l, .int x u], []⟩) (fun _ R s => s.heap.get? l = some { cls := .type "tuple", dict := dd, data := .seq items n, slots := sl } ∧ R (.ok (.ret (Value.ref l))) s) :=
  .of_wp fun prog w A R s h => by
    obtain ⟨hp, g, d, tk, os⟩ := s
    obtain ⟨hl, h⟩ := h
    have f1 := AutoSeq1.idx_int
    wp_walk using wpAny_loadPart' hl
    repeat (first
      | (refine wpAny_ite_false (decide_eq_false (by rw [c0]; exact Bool.false_ne_true)) ?_; wp_walk using wpAny_loadPart' hl)
      | (refine wpAny_ite_true (decide_eq_true c1) ?_; wp_walk using wpAny_loadPart' hl))
    all_goals exact ⟨_, rfl, h⟩
theorem tuple_mul_none (l : Addr) (items : Array Value) (n : Nat) (dd : Option Addr) (sl : Array (Option Value)) (x : Int) (u : Tok) (c0 : (decide (x < -(2 ^ 63)) || decide (x ≥ 2 ^ 63)) = false) (c1 : (items.isEmpty || x == 1) = false) (c2 : (decide (x ≤ 0) || items.isEmpty) = true) :
    Meets (Builtin.«tuple.__mul__» ⟨[.ref l, .int x u], []⟩) (fun _ R s => s.heap.get? l = some { cls := .type "tuple", dict := dd, data := .seq items n, slots := sl } ∧ R (.ok (.ret (Value.ref s.heap.objs.size))) { s with heap := s.heap.push { cls := Value.type "tuple", data := Data.seq #[] }, toks := s.toks }) :=
  .of_wp fun prog w A R s h => by
    obtain ⟨hp, g, d, tk, os⟩ := s
    obtain ⟨hl, h⟩ := h
    have f1 := AutoSeq1.idx_int
    wp_walk using wpAny_loadPart' hl
    repeat (first
      | (refine wpAny_ite_false (decide_eq_false (by rw [c0]; exact Bool.false_ne_true)) ?_; wp_walk using wpAny_loadPart' hl)
      | (refine wpAny_ite_false (decide_eq_false (by rw [c1]; exact Bool.false_ne_true)) ?_; wp_walk using wpAny_loadPart' hl)
      | (refine wpAny_ite_true (decide_eq_true c2) ?_; wp_walk using wpAny_loadPart' hl))
    all_goals exact ⟨_, rfl, h⟩
end
section
variable {X : Cx}
theorem OpR.or2 {f : Value → Value → Sem Value} {r r' : R2} (h : OpR X f r) (h' : OpR X f r') : OpR X f (fun x y H Q => r x y H Q ∨ r' x y H Q) := by
  intro pins s σ H x y v u Q I rx ry q
  rcases q with q | q
  · exact h pins s σ H x y v u Q I rx ry q
  · exact h' pins s σ H x y v u Q I rx ry q
def rRepA (K : PySem.W.Frag) : R2 := fun x y H Q => ∃ l k xs, x = .ref l ∧ y = .int k ∧ SqT K H l xs ∧ xs ≠ [] ∧ k ≤ 1000 ∧ -1000 ≤ k ∧ xs.length ≤ 1000 ∧ (k = 1 → Q (.ref l) H) ∧ (k ≠ 1 → ∀ p, H p = none → Q (.ref p) (upd H p (.tup (List.replicate k.toNat xs).flatten)))
theorem op_repA : OpR X (binaryOp .Mult) (rRepA X.K) := by
  intro pins s σ H x y v u Q I rx ry h
  obtain ⟨l, k, xs, rfl, rfl, hT, hne, h2, h1, hz, q1, q⟩ := h
  by_cases h3 : 2 ≤ k
  · exact op_repT pins s σ H _ _ v u Q I rx ry ⟨l, k, xs, rfl, rfl, hT, hne, h3, h2, hz, q (by omega)⟩
  cases rx
  obtain ⟨t, rfl⟩ := ry
  obtain ⟨its, r, ⟨⟨cls, dd, data, sl⟩, ho, hc, n, hd⟩, hs⟩ := I.tuple hT
  simp only at hc hd
  subst hc hd
  have hn : its ≠ [] := fun e => hne (by
    have hle : its.length = xs.length := r.length.symm
    rw [e] at hle
    exact List.eq_nil_of_length_eq_zero hle.symm)
  have hi : its.toArray.isEmpty = false := by
    cases its with
    | nil => exact absurd rfl hn
    | cons a b => rfl
  have c0 : (decide (k < -(2 ^ 63)) || decide (k ≥ 2 ^ 63)) = false := by
    rw [decide_eq_false (by omega), decide_eq_false (by omega)] <;> rfl
  by_cases h4 : k = 1
  · subst h4
    exact wpAny_binaryOp_repeat_ref (T := "tuple") (U := "int") (by decide) ⟨_, ho, rfl⟩ (fun s' => typeIs_int s' 1 t) noFill_tuple_mul F.fills_int_mul F.slot_int_rmul repeat_tuple F.slot_int_index.lookup
      (call_meets F.slot_int_rmul (typeIs_int s 1 t) F.entry_int_rmul (F.args_int_rmul_2 _ _) (int_rmul_tuple 1 t l its.toArray n dd sl)
        ⟨ho, rfl, ⟨_, ho, rfl⟩, call_meets F.slot_tuple_mul ⟨_, ho, rfl⟩ F.entry_tuple_mul (F.args_tuple_mul_2 _ _) (tuple_mul_same l its.toArray n dd sl 1 t c0 (by rw [hi]; rfl)) ⟨ho, ⟨.ref l, H, I, rfl, q1 rfl⟩⟩⟩)
  · have c1 : (its.toArray.isEmpty || k == 1) = false := by
      rw [hi, Bool.false_or]
      exact beq_eq_false_iff_ne.mpr h4
    have c2 : (decide (k ≤ 0) || its.toArray.isEmpty) = true := by
      rw [decide_eq_true (by omega)] <;> rfl
    refine wpAny_binaryOp_repeat_ref (T := "tuple") (U := "int") (by decide) ⟨_, ho, rfl⟩ (fun s' => typeIs_int s' k t) noFill_tuple_mul F.fills_int_mul F.slot_int_rmul repeat_tuple F.slot_int_index.lookup
      (call_meets F.slot_int_rmul (typeIs_int s k t) F.entry_int_rmul (F.args_int_rmul_2 _ _) (int_rmul_tuple k t l its.toArray n dd sl)
        ⟨ho, rfl, ⟨_, ho, rfl⟩, call_meets F.slot_tuple_mul ⟨_, ho, rfl⟩ F.entry_tuple_mul (F.args_tuple_mul_2 _ _) (tuple_mul_none l its.toArray n dd sl k t c0 c1 c2) ⟨ho, ?_⟩⟩)
    have e0 : k.toNat = 0 := by omega
    have q' := q h4
    rw [e0] at q'
    refine ⟨.ref s.heap.objs.size, _, I.laid (t' := s.toks) (o := .tup []) (fun b ob q => Heap.get?_push_of_some _ q) (Nat.le_refl _) ?_, rfl, q' _ (I.hok.fresh (Nat.le_refl _))⟩
    exact ⟨Nat.zero_le _, [], .nil, IsTup.new _ _⟩
def rCatL (K : PySem.W.Frag) : R2 := fun x y H Q => ∃ l b xs zs, x = .ref l ∧ y = .ref b ∧ SqL K H l xs ∧ SqL K H b zs ∧ xs.length + zs.length ≤ sizeLine ∧ ∀ p, H p = none → Q (.ref p) (upd H p (.lst (xs ++ zs)))
theorem op_catL : OpR X (binaryOp .Add) (rCatL X.K) := by
  intro pins s σ H x y v u Q I rx ry h
  obtain ⟨l, b, xs, zs, rfl, rfl, hH, hB, hz, q⟩ := h
  cases rx
  cases ry
  obtain ⟨its, r, ⟨⟨cls, dd, data, sl⟩, n, ho, hc, hd0, hd⟩, hs⟩ := I.list hH
  obtain ⟨its2, r2, ⟨⟨cls2, dd2, data2, sl2⟩, n2, ho2, hc2, hd02, hd2⟩, hs2⟩ := I.list hB
  simp only at hc hd hc2 hd2
  subst hc hd hc2 hd2
  have hlen := r.length
  have hlen2 := r2.length
  have e : its.toArray ++ its2.toArray = (its ++ its2).toArray := by simp
  refine concat_meets ⟨_, ho, rfl⟩ ⟨_, ho2, rfl⟩ noFill_list_add seq_list_add PySem.F.slot_list_add PySem.F.entry_list_add (PySem.F.args_list_add_2 _ _) (list_addW l b its.toArray its2.toArray n n2 dd dd2 sl sl2 (by simp only [List.size_toArray]; omega)) ⟨ho, ho2, ?_⟩
  rw [e]
  exact ⟨.ref _, _, I.lnew (t' := s.toks) (r.append r2) (by rw [List.length_append]; omega), rfl, q _ I.fresh⟩
end
end DL
end

section
set_option Elab.async false
set_option linter.all false
set_option maxRecDepth 100000
set_option maxHeartbeats 4000000
namespace DL
open PySem L2 PyProof.Rows

/-! ### data-level operations -/
def titems : DV → Option (List DV)
  | .d (.tuple xs) => some (xs.map .d)
  | .t xs => some xs
  | _ => none
def litems (st : Sto) : DV → Option (List DV)
  | .d (.list xs) => some (xs.map .d)
  | .r a => match st a with | some (.lst xs) => some xs | _ => none
  | _ => none
def sitems (st : Sto) (x : DV) : Option (List DV) := match titems x with | some l => some l | none => litems st x
def fz (st : Sto) : DV → Option PyData
  | .d x => some x
  | .t _ => none
  | .r a => match st a with | some (.lst xs) => (datas xs).map .list | _ => none
section
variable {K : PySem.W.Frag} {F H : Hp} {st : Sto} {v w : V} {x y : DV}
theorem rv_int {i : Int} (r : RV K F v (.d (.int i))) : v = .int i := by cases r with | d r => cases r; rfl
theorem rv_bool {b : Bool} (r : RV K F v (.d (.bool b))) : v = .bl b := by cases r with | d r => cases r; rfl
theorem rv_str {z : Str} (r : RV K F v (.d (.str z))) : v = .str z := by cases r with | d r => cases r; rfl
theorem rv_none (r : RV K F v (.d .none)) : v = .non := by cases r with | d r => cases r; rfl
theorem rv_r {a : Addr} (r : RV K F v (.r a)) : v = .ref a := by cases r; rfl
theorem titems_rv {xs : List DV} (r : RV K F v x) (h : titems x = some xs) : ∃ a vs, v = .ref a ∧ F a = some (.tup vs) ∧ RVs K F vs xs := by
  cases x with
  | d z =>
    cases z with
    | tuple ds => cases h; cases r with | d r => cases r with | tup q s => exact ⟨_, _, rfl, q, s.rvs⟩
    | _ => cases h
  | t ys => cases h; cases r with | t q s => exact ⟨_, _, rfl, q, s⟩
  | r a => cases h
theorem litems_rv {xs : List DV} (R : Rs K F H st) (r : RV K F v x) (h : litems st x = some xs) : ∃ a vs, v = .ref a ∧ SqL K H a vs ∧ RVs K F vs xs := by
  cases x with
  | d z =>
    cases z with
    | list ds => cases h; cases r with | d r => cases r with | lst q s => exact ⟨_, _, rfl, SqL.mono (Rs.ex F H st R) q, s.rvs⟩
    | _ => cases h
  | t ys => cases h
  | r a =>
    cases r
    unfold litems at h
    simp only at h
    cases e : st a with
    | none => rw [e] at h; cases h
    | some m =>
      rw [e] at h
      cases m with
      | lst ys =>
        cases h
        obtain ⟨vs, q, s⟩ := R.ok a _ e
        exact ⟨a, vs, rfl, SqL.of q, s⟩
      | dK _ => cases h
      | dT _ => cases h
      | ins _ _ => cases h
theorem sitems_rv {xs : List DV} (R : Rs K F H st) (r : RV K F v x) (h : sitems st x = some xs) : ∃ a vs, v = .ref a ∧ (SqL K H a vs ∨ SqT K H a vs) ∧ RVs K F vs xs := by
  unfold sitems at h
  cases e : titems x with
  | some l =>
    rw [e] at h
    cases h
    obtain ⟨a, vs, e1, q, s⟩ := titems_rv r e
    exact ⟨a, vs, e1, .inr (SqT.of (R.sub _ _ q).1), s⟩
  | none =>
    rw [e] at h
    obtain ⟨a, vs, e1, q, s⟩ := litems_rv R r h
    exact ⟨a, vs, e1, .inl q, s⟩
theorem fz_dp {d : PyData} (R : Rs K F H st) (r : RV K F v x) (h : fz st x = some d) : Dp K H v d := by
  cases x with
  | d z => cases h; cases r with | d r => exact r.dp (Rs.ex F H st R)
  | t ys => cases h
  | r a =>
    cases r
    unfold fz at h
    simp only at h
    cases e : st a with
    | none => rw [e] at h; cases h
    | some m =>
      rw [e] at h
      cases m with
      | lst ys =>
        simp only at h
        cases e2 : datas ys with
        | none => rw [e2] at h; cases h
        | some ds =>
          rw [e2] at h
          cases h
          have e3 := datas_eq e2
          subst e3
          obtain ⟨vs, q, s⟩ := R.ok a _ e
          exact .lst (SqL.of q) (s.all.dp (Rs.ex F H st R))
      | dK _ => cases h
      | dT _ => cases h
      | ins _ _ => cases h

/-- + -/
def qAdd (m : Bool) : R2D := fun x y st Q => match x, y with
  | .d (.int i), .d (.int j) => Q (.d (.int (i + j))) st
  | .d (.str a), .d (.str b) => a.length + b.length ≤ sizeLine ∧ Q (.d (.str (a ++ b))) st
  | _, _ => match titems x, titems y with
    | some a, some b => a.length + b.length ≤ sizeLine ∧ Q (mkT (a ++ b)) st
    | _, _ => match litems st x, litems st y with
      | some a, some b => a.length + b.length ≤ sizeLine ∧ newL m (a ++ b) st Q
      | _, _ => False
theorem mkT_of {x : DV} {xs : List DV} (h : titems x = some xs) (hn : ∀ ys, x = .t ys → datas ys = none) : mkT xs = x := by
  cases x with
  | d z =>
    cases z with
    | tuple ds => cases h; unfold mkT; rw [datas_map]
    | _ => cases h
  | t ys => cases h; unfold mkT; rw [hn _ rfl]
  | r a => cases h
variable {X : Cx}
theorem op_qAdd (m : Bool) : ∃ r', OpR X (binaryOp .Add) r' ∧ S2 X.K r' (qAdd m) := by
  refine ⟨_, OpR.or2 (OpR.or2 op_add op_add_str) (OpR.or2 op_catA op_catL), ?_⟩
  intro F H st v w x y Qd Q R rv rw' h kk
  unfold qAdd at h
  split at h
  · cases rv_int rv; cases rv_int rw'
    exact .inl (.inl ⟨_, _, rfl, rfl, kk.at R (.d (.int _)) h⟩)
  · cases rv_str rv; cases rv_str rw'
    exact .inl (.inr ⟨_, _, rfl, rfl, h.1, kk.at R (.d (.str _)) h.2⟩)
  · refine .inr ?_
    split at h
    · rename_i a b ea eb
      obtain ⟨p, vs, rfl, q1, s1⟩ := titems_rv rv ea
      obtain ⟨p2, ws, rfl, q2, s2⟩ := titems_rv rw' eb
      have hl := s1.length
      have hl2 := s2.length
      refine .inl ⟨p, p2, vs, ws, rfl, rfl, SqT.of (R.sub _ _ q1).1, SqT.of (R.sub _ _ q2).1, by omega, fun e => ?_, fun _ e => ?_, fun _ _ p hp => new_tup R (s1.append s2) hp h.2 kk⟩
      · subst e
        cases s1
        exact kk.at R (mkT_rv q2 s2) h.2
      · subst e
        cases s2
        rw [List.append_nil] at h
        exact kk.at R (mkT_rv q1 s1) h.2
    · split at h
      · rename_i a b ea eb
        obtain ⟨p, vs, rfl, q1, s1⟩ := litems_rv R rv ea
        obtain ⟨p2, ws, rfl, q2, s2⟩ := litems_rv R rw' eb
        have hl := s1.length
        have hl2 := s2.length
        exact .inr ⟨p, p2, vs, ws, rfl, rfl, q1, q2, by omega, fun p hp => new_lst R (s1.append s2) hp h.2 kk⟩
      · exact h.elim
/-- dints in, an int out -/
def qI2 (C : Int → Int → Prop) (g : Int → Int → Int) : R2D := fun x y st Q => match x, y with
  | .d (.int i), .d (.int j) => C i j ∧ Q (.d (.int (g i j))) st
  | _, _ => False
theorem qI2_out {C : Int → Int → Prop} {g : Int → Int → Int} {x y : DV} {st : Sto} {Q : DV → Sto → Prop} (h : qI2 C g x y st Q) : ∃ i j, x = .d (.int i) ∧ y = .d (.int j) ∧ C i j ∧ Q (.d (.int (g i j))) st := by
  unfold qI2 at h
  split at h
  · exact ⟨_, _, rfl, rfl, h⟩
  · exact h.elim
theorem s2_I2 {C : Int → Int → Prop} {g : Int → Int → Int} : S2 K (rI C fun i j => .int (g i j)) (qI2 C g) := fun F H st v w x y Qd Q R rv rw' h kk => by
  obtain ⟨i, j, e1, e2, hc, q⟩ := qI2_out h
  subst e1 e2
  cases rv_int rv; cases rv_int rw'
  exact ⟨i, j, rfl, rfl, hc, kk.at R (.d (.int _)) q⟩
theorem s2_I0 {g : Int → Int → Int} : S2 K (rI0 fun i j => .int (g i j)) (qI2 (fun _ _ => True) g) := fun F H st v w x y Qd Q R rv rw' h kk => by
  obtain ⟨i, j, e1, e2, hc, q⟩ := qI2_out h
  subst e1 e2
  cases rv_int rv; cases rv_int rw'
  exact ⟨i, j, rfl, rfl, kk.at R (.d (.int _)) q⟩
def qSub : R2D := qI2 (fun _ _ => True) fun i j => i - j
def CMulA (i j : Int) : Prop := CMul i j ∨ CMulW i j
def qMul (m : Bool) : R2D := fun x y st Q => match x, y with
  | .d (.int i), .d (.int j) => CMulA i j ∧ Q (.d (.int (i * j))) st
  | _, .d (.int k) => match titems x with
    | some a => a ≠ [] ∧ k ≤ 1000 ∧ -1000 ≤ k ∧ a.length ≤ 1000 ∧ Q (mkT (List.replicate k.toNat a).flatten) st
    | none => False
  | _, _ => False
theorem rep_rvs {vs : List V} {xs : List DV} (r : RVs K F vs xs) : ∀ n : Nat, RVs K F (List.replicate n vs).flatten (List.replicate n xs).flatten
  | 0 => .nil
  | n + 1 => by
    rw [List.replicate_succ, List.replicate_succ, List.flatten_cons, List.flatten_cons]
    exact r.append (rep_rvs r n)
theorem op_qMul (m : Bool) : ∃ r', OpR X (binaryOp .Mult) r' ∧ S2 X.K r' (qMul m) := by
  refine ⟨_, OpR.or2 (OpR.or2 op_mul op_mulW) op_repA, ?_⟩
  intro F H st v w x y Qd Q R rv rw' h kk
  unfold qMul at h
  split at h
  · cases rv_int rv; cases rv_int rw'
    rcases h.1 with hc | hc
    · exact .inl (.inl ⟨_, _, rfl, rfl, hc, kk.at R (.d (.int _)) h.2⟩)
    · exact .inl (.inr ⟨_, _, rfl, rfl, hc, kk.at R (.d (.int _)) h.2⟩)
  · cases rv_int rw'
    refine .inr ?_
    split at h
    · rename_i a ea
      obtain ⟨p, vs, rfl, q1, s1⟩ := titems_rv rv ea
      have hl := s1.length
      obtain ⟨h1, h2, h3, h4, h5⟩ := h
      refine ⟨p, _, vs, rfl, rfl, SqT.of (R.sub _ _ q1).1, fun e => h1 ?_, h2, h3, by omega, fun e => ?_, fun _ p hp => new_tup R (rep_rvs s1 _) hp h5 kk⟩
      · subst e
        cases s1
        rfl
      · subst e
        have e1 : (List.replicate (1 : Int).toNat a).flatten = a := by simp
        rw [e1] at h5
        exact kk.at R (mkT_rv q1 s1) h5
    · exact h.elim
  · exact h.elim
def CFd (i j : Int) : Prop := (j ≠ 0 ∧ j.natAbs < 1073741824) ∨ CDivW i j
def qFdiv : R2D := qI2 CFd fun i j => i.fdiv j
theorem op_qFdiv : ∃ r', OpR X (binaryOp .FloorDiv) r' ∧ S2 X.K r' qFdiv := by
  refine ⟨_, OpR.or2 op_fdivN op_fdivW, ?_⟩
  intro F H st v w x y Qd Q R rv rw' h kk
  obtain ⟨i, j, rfl, rfl, hc, q⟩ := qI2_out h
  cases rv_int rv; cases rv_int rw'
  rcases hc with hc | hc
  · exact .inl ⟨i, j, rfl, rfl, hc, kk.at R (.d (.int _)) q⟩
  · refine .inr ⟨i, j, rfl, rfl, hc, ?_⟩
    have h0 : (0 : Int) < j := hc.1
    show Q (V.int (i / j)) H
    rw [show i / j = i.fdiv j from (Int.fdiv_eq_ediv_of_nonneg i (by omega)).symm]
    exact kk.at R (.d (.int _)) q
def qMod : R2D := qI2 (fun _ j => j ≠ 0) fun i j => i.fmod j
theorem op_qMod : ∃ r', OpR X (binaryOp .Mod) r' ∧ S2 X.K r' qMod := ⟨_, op_modN, s2_I2⟩
def qPow : R2D := qI2 CPow fun i j => i ^ j.toNat
theorem op_qPow : ∃ r', OpR X (binaryOp .Pow) r' ∧ S2 X.K r' qPow := ⟨_, op_pow, s2_I2⟩
theorem op_qSub : ∃ r', OpR X (binaryOp .Sub) r' ∧ S2 X.K r' qSub := ⟨_, op_sub, s2_I0⟩
theorem de_bin {op : Operator} {a b : Expr} {pos : Pos} {ta tb : TD} {r : R2D} (ho : ∃ r', OpR X (binaryOp op) r' ∧ S2 X.K r' r) (ha : DE X a ta) (hb : DE X b tb) : DE X (.BinOp a op b pos) (qOp r ta tb) :=
  let ⟨_, h1, h2⟩ := ho; de_op h1 h2 ha hb
theorem de_cp {op : CmpOp} {a b : Expr} {pos : Pos} {ta tb : TD} {r : R2D} (ho : ∃ r', OpR X (compareOp op) r' ∧ S2 X.K r' r) (hm : behindInMarks op b = false) (ha : DE X a ta) (hb : DE X b tb) : DE X (.Compare a [op] [b] pos) (qOp r ta tb) :=
  let ⟨_, h1, h2⟩ := ho; de_cmp h1 h2 hm ha hb
theorem de_ch {op op' : CmpOp} {a b c : Expr} {pos : Pos} {ta tb tc : TD} {d1 d2 : R2D} (ho : ∃ r', OpR X (compareOp op) r' ∧ S2 X.K r' d1) (ho2 : ∃ r', OpR X (compareOp op') r' ∧ S2 X.K r' d2) (hm : lastMarks [op, op'] [b, c] = false)
    (ha : DE X a ta) (hb : DE X b tb) (hc : DE X c tc) : DE X (.Compare a [op, op'] [b, c] pos) (qChain d1 d2 ta tb tc) :=
  let ⟨_, h1, h2⟩ := ho; let ⟨_, h3, h4⟩ := ho2; de_chain h1 h2 h3 h4 ha hb hc fun _ _ _ p1 p2 p3 => pe_chain h1 h3 p1 p2 p3 hm

theorem test_sg {te : TE} {t : TD} (a : Sg (RV K) K te t) : Sg relT K (fun σ H Q => te σ H fun z H1 => ∃ k, z = .bl k ∧ Q k H1) (qTest t) := fun F σ H ε st Qd Q R E h kk =>
  a.go R E h kk fun F1 H1 s1 v x R1 E1 rv q kk => by
    obtain ⟨b, rfl, q⟩ := onB_out q
    cases rv_bool rv
    exact ⟨b, rfl, kk.at R1 rfl q⟩
theorem dt_cp {op : CmpOp} {a b : Expr} {pos : Pos} {ta tb : TD} {r : R2D} (ho : ∃ r', OpR X (compareOp op) r' ∧ S2 X.K r' r) (hm : behindInMarks op b = false) (ha : DE X a ta) (hb : DE X b tb) : DT X (.Compare a [op] [b] pos) (qTest (qOp r ta tb)) := by
  obtain ⟨r', h1, h2⟩ := ho
  obtain ⟨te, pa, sa⟩ := ha
  obtain ⟨tf, pb, sb⟩ := hb
  exact ⟨⟨_, pt_cmpR h1 pa pb hm, test_sg (Sg.bin sa sb (fun _ _ _ _ e h => RV.mono e h) h2)⟩⟩
theorem dt_ch {op op' : CmpOp} {a b c : Expr} {pos : Pos} {ta tb tc : TD} {d1 d2 : R2D} (ho : ∃ r', OpR X (compareOp op) r' ∧ S2 X.K r' d1) (ho2 : ∃ r', OpR X (compareOp op') r' ∧ S2 X.K r' d2) (hm : lastMarks [op, op'] [b, c] = false)
    (ha : DE X a ta) (hb : DE X b tb) (hc : DE X c tc) : DT X (.Compare a [op, op'] [b, c] pos) (qTest (qChain d1 d2 ta tb tc)) := by
  obtain ⟨r1, h1, h2⟩ := ho
  obtain ⟨r2, h3, h4⟩ := ho2
  obtain ⟨te, pa, sa⟩ := ha
  obtain ⟨tf, pb, sb⟩ := hb
  obtain ⟨tg, pc, sc'⟩ := hc
  refine ⟨⟨_, pt_chain h1 h3 pa pb pc hm, test_sg (fun F σ H ε st Qd Q R E h kk => ?_)⟩⟩
  exact chain_sim h2 h4 sa sb sc' F σ H ε st Qd Q R E h kk

/-! ### comparisons -/
def qEq : R2D := fun x y st Q => match fz st x, fz st y with
  | some a, some b => SeqAt.shaped a = true ∧ SeqAt.shaped b = true ∧ Q (.d (.bool (PyData.eqv a b))) st
  | _, _ => False
def qNe : R2D := fun x y st Q => match fz st x, fz st y with
  | some a, some b => SeqAt.shaped a = true ∧ SeqAt.shaped b = true ∧ Q (.d (.bool (!PyData.eqv a b))) st
  | _, _ => False
theorem op_qEq (hu : X.A.units + 64 < cLine) : ∃ r', OpR X (compareOp .Eq) r' ∧ S2 X.K r' qEq :=
  ⟨_, op_eqD hu, fun F H st v w x y Qd Q R rv rw' h kk => by
    unfold qEq at h
    split at h
    · rename_i a b e1 e2
      exact ⟨a, b, fz_dp R rv e1, fz_dp R rw' e2, h.1, h.2.1, kk.at R (.d (.bl _)) h.2.2⟩
    · exact h.elim⟩
theorem op_qNe (hu : X.A.units + 64 < cLine) : ∃ r', OpR X (compareOp .NotEq) r' ∧ S2 X.K r' qNe :=
  ⟨_, op_neD hu, fun F H st v w x y Qd Q R rv rw' h kk => by
    unfold qNe at h
    split at h
    · rename_i a b e1 e2
      exact ⟨a, b, fz_dp R rv e1, fz_dp R rw' e2, h.1, h.2.1, kk.at R (.d (.bl _)) h.2.2⟩
    · exact h.elim⟩
def dints : List DV → Option (List Int)
  | [] => some []
  | .d (.int i) :: r => (dints r).map (i :: ·)
  | _ :: _ => none
theorem dints_rvs : ∀ {vs : List V} {xs : List DV} {ns : List Int}, RVs K F vs xs → dints xs = some ns → vs = ns.map V.int ∧ xs = ns.map fun i => .d (.int i)
  | _, [], ns, r, h => by cases h; cases r; exact ⟨rfl, rfl⟩
  | v :: vs, .d (.int i) :: xs, ns, .cons r q, h => by
    cases e : dints xs with
    | none => simp [dints, e] at h
    | some l =>
      simp [dints, e] at h
      subst h
      obtain ⟨h1, h2⟩ := dints_rvs q e
      cases rv_int r
      exact ⟨by rw [h1]; rfl, by rw [h2]; rfl⟩
theorem dints_map : ∀ l : List Int, dints (l.map fun i => .d (.int i)) = some l
  | [] => rfl
  | i :: r => by simp [dints, dints_map r]
def qCmpI (g : Int → Int → Bool) : R2D := fun x y st Q => match x, y with
  | .d (.int i), .d (.int j) => Q (.d (.bool (g i j))) st
  | _, _ => False
theorem s2_cmpI {g : Int → Int → Bool} : S2 K (rI0 fun i j => .bl (g i j)) (qCmpI g) := fun F H st v w x y Qd Q R rv rw' h kk => by
  unfold qCmpI at h
  split at h
  · cases rv_int rv; cases rv_int rw'
    exact ⟨_, _, rfl, rfl, kk.at R (.d (.bl _)) h⟩
  · exact h.elim
def qLt : R2D := fun x y st Q => match x, y with
  | .d (.int i), .d (.int j) => Q (.d (.bool (decide (i < j)))) st
  | _, _ => match (titems x).bind dints, (titems y).bind dints with
    | some ns, some ms => Q (.d (.bool (HT.lexLt ns ms))) st
    | _, _ => False
theorem op_qLt (hu : X.A.units < cLine) : ∃ r', OpR X (compareOp .Lt) r' ∧ S2 X.K r' qLt := by
  refine ⟨_, OpR.or2 op_lt (op_ltT hu), ?_⟩
  intro F H st v w x y Qd Q R rv rw' h kk
  unfold qLt at h
  split at h
  · cases rv_int rv; cases rv_int rw'
    exact .inl ⟨_, _, rfl, rfl, kk.at R (.d (.bl _)) h⟩
  · split at h
    rotate_left
    · exact h.elim
    rename_i ns ms e13 e24
    have q := h
    obtain ⟨a, e1, e3⟩ := Option.bind_eq_some_iff.mp e13
    obtain ⟨b, e2, e4⟩ := Option.bind_eq_some_iff.mp e24
    obtain ⟨p, vs, rfl, q1, s1⟩ := titems_rv rv e1
    obtain ⟨p2, ws, rfl, q2, s2⟩ := titems_rv rw' e2
    obtain ⟨rfl, _⟩ := dints_rvs s1 e3
    obtain ⟨rfl, _⟩ := dints_rvs s2 e4
    exact .inr ⟨p, p2, ns, ms, rfl, rfl, SqT.of (R.sub _ _ q1).1, SqT.of (R.sub _ _ q2).1, kk.at R (.d (.bl _)) q⟩
def qLe : R2D := qCmpI fun i j => decide (i ≤ j)
def qGt : R2D := qCmpI fun i j => decide (j < i)
def qGe : R2D := qCmpI fun i j => decide (j ≤ i)
theorem op_qLe : ∃ r', OpR X (compareOp .LtE) r' ∧ S2 X.K r' qLe := ⟨_, op_le, s2_cmpI⟩
theorem op_qGt : ∃ r', OpR X (compareOp .Gt) r' ∧ S2 X.K r' qGt := ⟨_, op_gt, s2_cmpI⟩
theorem op_qGe : ∃ r', OpR X (compareOp .GtE) r' ∧ S2 X.K r' qGe := ⟨_, op_ge, s2_cmpI⟩
/-- is None -/
def isN : DV → Bool
  | .d .none => true
  | _ => false
def qIsN : R2D := fun x y st Q => y = .d .none ∧ Q (.d (.bool (isN x))) st
def qNotN : R2D := fun x y st Q => y = .d .none ∧ Q (.d (.bool (!isN x))) st
theorem rv_isN (r : RV K F v x) : decide (v = .non) = isN x := by
  cases r with
  | d r => cases r <;> rfl
  | r a => rfl
  | t _ _ => rfl
theorem op_qIsN : ∃ r', OpR X (compareOp .Is) r' ∧ S2 X.K r' qIsN := by
  refine ⟨_, op_isN, ?_⟩
  rintro F H st v w x y Qd Q R rv rw' ⟨rfl, q⟩ kk
  cases rv_none rw'
  refine ⟨rfl, ?_⟩
  rw [rv_isN rv]
  exact kk.at R (.d (.bl _)) q
theorem op_qNotN : ∃ r', OpR X (compareOp .IsNot) r' ∧ S2 X.K r' qNotN := by
  refine ⟨_, op_notN, ?_⟩
  rintro F H st v w x y Qd Q R rv rw' ⟨rfl, q⟩ kk
  cases rv_none rw'
  refine ⟨rfl, ?_⟩
  rw [rv_isN rv]
  exact kk.at R (.d (.bl _)) q
/-- unary minus -/
def qNeg : R1D := fun x st Q => match x with | .d (.int i) => Q (.d (.int (-i))) st | _ => False
theorem de_neg {a : Expr} {pos : Pos} {ta : TD} (ha : DE X a ta) : DE X (.UnaryOp .USub a pos) (qUn qNeg ta) :=
  de_un un_neg (fun F H st v x Qd Q R rv h kk => by
    unfold qNeg at h
    split at h
    · cases rv_int rv; exact ⟨_, rfl, kk.at R (.d (.int _)) h⟩
    · exact h.elim) ha

/-! ### subscripts, slices -/
theorem atI_rv {vs : List V} {xs : List DV} {i : Int} {x : DV} (r : RVs K F vs xs) (h : atI xs i = some x) : ∃ v, atI vs i = some v ∧ RV K F v x := by
  unfold atI at h ⊢
  rw [r.length]
  cases e : ixN xs.length i with
  | none => rw [e] at h; cases h
  | some j =>
    rw [e] at h
    exact r.get' h
def qIx : R2D := fun x y st Q => match y with
  | .d (.int i) => match x with
    | .d (.str z) => z.length ≤ sizeLine ∧ (match atI z.cps.toList i with | some c => Q (.d (.str ⟨#[c]⟩)) st | none => False)
    | _ => match sitems st x with
      | some xs => (match atI xs i with | some z => Q z st | none => False)
      | none => False
  | _ => False
theorem de_ix {a b : Expr} {pos : Pos} {ta tb : TD} (ha : DE X a ta) (hb : DE X b tb) (hs : PlainIx b) : DE X (.Subscript a b pos) (qOp qIx ta tb) := by
  obtain ⟨te, pa, sa⟩ := ha
  obtain ⟨tf, pb, sb⟩ := hb
  refine ⟨⟨_, pe_ix ix_seq pa pb hs, Sg.bin sa sb (fun _ _ _ _ e h => RV.mono e h) ?_⟩⟩
  intro F H st v w x y Qd Q R rv rw' h kk
  unfold qIx at h
  split at h
  · cases rv_int rw'
    split at h
    · cases rv_str rv
      obtain ⟨h1, h⟩ := h
      split at h
      · rename_i c h2
        exact .inr (.inr ⟨_, _, c, rfl, rfl, h1, h2, kk.at R (.d (.str _)) h⟩)
      · exact h.elim
    · split at h
      · rename_i xs es
        split at h
        rotate_left
        · exact h.elim
        rename_i z ez
        have q := h
        obtain ⟨p, vs, rfl, hq, s⟩ := sitems_rv R rv es
        obtain ⟨u, eu, ru⟩ := atI_rv s ez
        rcases hq with hq | hq
        · exact .inl ⟨p, vs, _, u, rfl, rfl, hq, eu, kk.at R ru q⟩
        · exact .inr (.inl ⟨p, vs, _, u, rfl, rfl, hq, eu, kk.at R ru q⟩)
      · exact h.elim
  · exact h.elim
/-- parts of a slice -/
abbrev relO : Hp → Option Int → Option Int → Prop := fun _ a b => a = b
structure DO (X : Cx) (e : Option Expr) (t : Env → Sto → (Option Int → Sto → Prop) → Prop) : Prop where
  ex : ∃ te, PO X e te ∧ Sg relO X.K te t
def qNoPart : Env → Sto → (Option Int → Sto → Prop) → Prop := fun _ st Q => Q none st
def qPart (ta : TD) : Env → Sto → (Option Int → Sto → Prop) → Prop := fun ε st Q => ta ε st fun x s1 => match x with | .d (.int i) => Q (some i) s1 | _ => False
theorem do_none : DO X none qNoPart := ⟨⟨_, po_none, fun F σ H ε st Qd Q R E q kk => kk.at R rfl q⟩⟩
theorem do_some {e : Expr} {ta : TD} (h : DE X e ta) : DO X (some e) (qPart ta) := by
  obtain ⟨te, pa, sa⟩ := h
  refine ⟨⟨_, po_some pa, fun F σ H ε st Qd Q R E h kk => sa.go R E h kk fun F1 H1 s1 v x R1 E1 rv q kk => ?_⟩⟩
  split at q
  · cases rv_int rv
    exact ⟨_, rfl, kk.at R1 rfl q⟩
  · exact q.elim
def cutD {α : Type} (xs : List α) (lo hi : Option Int) : List α := (xs.drop (HT.sIx xs.length 0 lo)).take (HT.sIx xs.length xs.length hi - HT.sIx xs.length 0 lo)
theorem cut_rvs {vs : List V} {xs : List DV} (r : RVs K F vs xs) (lo hi : Option Int) : RVs K F (cutV vs lo hi) (cutD xs lo hi) := by
  unfold cutV cutD
  rw [r.length]
  exact (r.drop _).take _
theorem cutD_map {α β : Type} (f : α → β) (xs : List α) (lo hi : Option Int) : cutD (xs.map f) lo hi = (cutD xs lo hi).map f := by
  unfold cutD
  rw [List.length_map, List.map_take, List.map_drop]
def qSl (m : Bool) (te : TD) (tl th : Env → Sto → (Option Int → Sto → Prop) → Prop) : TD := fun ε st Q => te ε st fun x s1 => tl ε s1 fun lo s2 => th ε s2 fun hi s3 => match x with
  | .d (.str z) => z.length ≤ sizeLine ∧ Q (.d (.str (cutS z lo hi))) s3
  | _ => match titems x with
    | some xs => Q (mkT (cutD xs lo hi)) s3
    | none => match litems s3 x with
      | some xs => newL m (cutD xs lo hi) s3 Q
      | none => False
theorem de_sl {e : Expr} {lo hi : Option Expr} {p2 pos : Pos} {te : TD} {tl th : Env → Sto → (Option Int → Sto → Prop) → Prop} (m : Bool) (he : DE X e te) (hl : DO X lo tl) (hh : DO X hi th) : DE X (.Subscript e (.Slice lo hi none p2) pos) (qSl m te tl th) := by
  obtain ⟨t1, pa, sa⟩ := he
  obtain ⟨t2, pb, sb⟩ := hl
  obtain ⟨t3, pc, sc⟩ := hh
  refine ⟨⟨_, pe_slice (SlR.or (SlR.or sl_list sl_tupA) sl_str) pa pb pc, fun F σ H ε st Qd Q R E h kk => ?_⟩⟩
  refine sa.go R E h kk fun F1 H1 s1 v x R1 E1 rv h kk => ?_
  refine sb F1 σ H1 ε s1 _ _ R1 E1 h fun F2 l H2 l' s2 t2 R2 rl h => ?_
  refine sc F2 σ H2 ε s2 _ _ R2 (E1.mono t2.ex) h fun F3 u H3 u' s3 t3 R3 ru h => ?_
  cases rl; cases ru
  have rv3 := rv.mono (t2.trans t3).ex
  have kk3 : Kg (RV X.K) X.K F3 H3 s3 Qd Q := fun F4 z H4 z' s4 t4 R4 rz q4 => kk F4 z H4 z' s4 ((t2.trans t3).trans t4) R4 rz q4
  split at h
  · cases rv_str rv
    exact .inr ⟨_, rfl, h.1, kk3.at R3 (.d (.str _)) h.2⟩
  · split at h
    · rename_i xs ex
      obtain ⟨p, vs, rfl, q1, s1⟩ := titems_rv rv3 ex
      refine .inl (.inr ⟨p, vs, rfl, SqT.of (R3.sub _ _ q1).1, fun hw => ?_, fun _ p hp => new_tup R3 (cut_rvs s1 _ _) hp h kk3⟩)
      refine kk3.at R3 ?_ h
      have e : cutD xs l u = xs := by
        unfold cutD
        rw [← s1.length]
        rw [hw.1, hw.2, List.drop_zero, Nat.sub_zero, s1.length, List.take_length]
      rw [e]
      exact mkT_rv q1 s1
    · split at h
      · rename_i xs ex
        obtain ⟨p, vs, rfl, q1, s1⟩ := litems_rv R3 rv3 ex
        exact .inl (.inl ⟨p, vs, rfl, q1, fun p hp => new_lst R3 (cut_rvs s1 _ _) hp h kk3⟩)
      · exact h.elim
end
end DL
end

section
set_option Elab.async false
set_option linter.all false
set_option maxRecDepth 100000
set_option maxHeartbeats 4000000
namespace DL
open PySem L2 PyProof.Rows

structure EndsD where
  nx : Env → Sto → Prop
  rt : DV → Sto → Prop
  bk : Env → Sto → Prop := fun _ _ => False
  ct : Env → Sto → Prop := fun _ _ => False
abbrev TDs := EndsD → Env → Sto → Prop
abbrev TDg := DV → Env → Sto → (Env → Sto → Prop) → Prop
abbrev TDgs := List DV → Env → Sto → (Env → Sto → Prop) → Prop
abbrev TDi := Env → Sto → (List DV → (Sto → Prop) → Sto → Prop) → Prop
def KE (K : PySem.W.Frag) (F H : Hp) (st : Sto) (Dn : Env → Sto → Prop) (N : L2.St → Hp → Prop) : Prop :=
  ∀ F' σ' H' ε' st', Step F H st F' H' st' → Rs K F' H' st' → RE K F' σ' ε' → Dn ε' st' → N σ' H'
structure KS (K : PySem.W.Frag) (F H : Hp) (st : Sto) (Dd : EndsD) (D : Ends) : Prop where
  nx : KE K F H st Dd.nx D.nx
  rt : Kg (RV K) K F H st Dd.rt D.rt
  bk : KE K F H st Dd.bk D.bk
  ct : KE K F H st Dd.ct D.ct
theorem KE.step {K : PySem.W.Frag} {F H F1 H1 : Hp} {st st1 : Sto} {Dn : Env → Sto → Prop} {N : L2.St → Hp → Prop} (k : KE K F H st Dn N) (t : Step F H st F1 H1 st1) : KE K F1 H1 st1 Dn N :=
  fun F' σ' H' ε' st' s R E q => k F' σ' H' ε' st' (t.trans s) R E q
theorem Kg.step {α β : Type} {rel : Hp → α → β → Prop} {K : PySem.W.Frag} {F H F1 H1 : Hp} {st st1 : Sto} {Qd : β → Sto → Prop} {Q : α → Hp → Prop} (k : Kg rel K F H st Qd Q) (t : Step F H st F1 H1 st1) : Kg rel K F1 H1 st1 Qd Q :=
  fun F' v H' x st' s R r q => k F' v H' x st' (t.trans s) R r q
theorem KS.step {K : PySem.W.Frag} {F H F1 H1 : Hp} {st st1 : Sto} {Dd : EndsD} {D : Ends} (k : KS K F H st Dd D) (t : Step F H st F1 H1 st1) : KS K F1 H1 st1 Dd D :=
  ⟨k.nx.step t, k.rt.step t, k.bk.step t, k.ct.step t⟩
theorem KE.at {K : PySem.W.Frag} {F H : Hp} {st : Sto} {σ : L2.St} {ε : Env} {Dn : Env → Sto → Prop} {N : L2.St → Hp → Prop} (k : KE K F H st Dn N) (R : Rs K F H st) (E : RE K F σ ε) (q : Dn ε st) : N σ H :=
  k F σ H ε st (Step.refl _ _ _) R E q
def SS (K : PySem.W.Frag) (ts : TS) (t : TDs) : Prop := ∀ F σ H ε st Dd D, Rs K F H st → RE K F σ ε → t Dd ε st → KS K F H st Dd D → ts D σ H
structure DS (X : Cx) (s : Stmt) (t : TDs) : Prop where
  ex : ∃ ts, PS X s ts ∧ SS X.K ts t
structure DSs (X : Cx) (s : List Stmt) (t : TDs) : Prop where
  ex : ∃ ts, PSs X s ts ∧ SS X.K ts t
structure DG (X : Cx) (tg : Expr) (ws : List Nat) (t : TDg) : Prop where
  ex : ∃ g, PG X tg g ∧ ∀ F σ H ε st v x Qd Q, Rs X.K F H st → RE X.K F σ ε → RV X.K F v x → t x ε st Qd →
    (∀ F' σ' H' ε' st', Step F H st F' H' st' → Rs X.K F' H' st' → RE X.K F' σ' ε' → (∀ vs : List Nat, (∀ i ∈ ws, i ∈ vs) → wipe σ' vs = wipe σ vs) → Qd ε' st' → Q σ' H') → g v σ H Q
structure DGs (X : Cx) (tg : List Expr) (ws : List Nat) (t : TDgs) : Prop where
  ex : ∃ g, PGs X tg g ∧ ∀ F σ H ε st v x Qd Q, Rs X.K F H st → RE X.K F σ ε → RVs X.K F v x → t x ε st Qd →
    (∀ F' σ' H' ε' st', Step F H st F' H' st' → Rs X.K F' H' st' → RE X.K F' σ' ε' → (∀ vs : List Nat, (∀ i ∈ ws, i ∈ vs) → wipe σ' vs = wipe σ vs) → Qd ε' st' → Q σ' H') → g v σ H Q
/-- what an iterator of these items does -/
def Src (K : PySem.W.Frag) (F0 : Hp) (J : It) (items : List DV) (inv : Sto → Prop) : Prop := ∀ F H st, (∀ a o, F0 a = some o → F a = some o) → Rs K F H st → inv st →
  (∀ i x, items[i]? = some x → J.go i H ∧ ∀ v H', J.yld i H v H' → ∃ F', Step F H st F' H' st ∧ Rs K F' H' st ∧ RV K F' v x) ∧ J.stop items.length H
structure DI (X : Cx) (tg iter : Expr) (t : TDi) : Prop where
  ex : ∃ wi, PI X tg iter wi ∧ ∀ F σ H ε st Qd R', Rs X.K F H st → RE X.K F σ ε → t ε st Qd →
    (∀ F' J H' items inv st', Step F H st F' H' st' → Rs X.K F' H' st' → Src X.K F' J items inv → Qd items inv st' → R' J H') → wi σ H R'

section
variable {P : Program} {w : World} {K : PySem.W.Frag} {mg : Str → Option Value} {base : Heap} {X : Cx} {N : List Str} {sc fs : Scope} {k : Nat}

/-! ### blocks, small statements -/
def qSeq (t u : TDs) : TDs := fun D ε st => t { D with nx := u D } ε st
def qNext : TDs := fun D ε st => D.nx ε st
theorem ds_nil : DSs X [] qNext := ⟨⟨_, pss_nil, fun F σ H ε st Dd D R E h kk => kk.nx.at R E h⟩⟩
theorem ds_cons {s : Stmt} {r : List Stmt} {t u : TDs} (h : DS X s t) (hr : DSs X r u) : DSs X (s :: r) (qSeq t u) := by
  obtain ⟨ts, p, a⟩ := h
  obtain ⟨us, q, b⟩ := hr
  refine ⟨⟨_, pss_cons p q, fun F σ H ε st Dd D R E h kk => ?_⟩⟩
  exact a F σ H ε st _ _ R E h ⟨fun F' σ' H' ε' st' s R' E' q => b F' σ' H' ε' st' _ _ R' E' q (kk.step s), kk.rt, kk.bk, kk.ct⟩
theorem ds_one {s : Stmt} {t : TDs} (h : DS X s t) : DSs X [s] t := let ⟨ts, p, a⟩ := h.ex; ⟨⟨ts, pss_one p, a⟩⟩
theorem ds_pass {pos : Pos} : DS X (.Pass pos) qNext := ⟨⟨_, ps_pass, fun F σ H ε st Dd D R E h kk => kk.nx.at R E h⟩⟩
def qBreak : TDs := fun D ε st => D.bk ε st
def qCont : TDs := fun D ε st => D.ct ε st
theorem ds_break {pos : Pos} : DS X (.Break pos) qBreak := ⟨⟨_, ps_break, fun F σ H ε st Dd D R E h kk => kk.bk.at R E h⟩⟩
theorem ds_cont {pos : Pos} : DS X (.Continue pos) qCont := ⟨⟨_, ps_continue, fun F σ H ε st Dd D R E h kk => kk.ct.at R E h⟩⟩
def qNever : TDs := fun _ _ _ => False
theorem ds_never {s : Stmt} : DS X s qNever := ⟨⟨_, ps_never, fun F σ H ε st Dd D R E h kk => h.elim⟩⟩
def qDrop (te : TD) : TDs := fun D ε st => te ε st fun _ s1 => D.nx ε s1
theorem ds_expr {e : Expr} {te : TD} {pos : Pos} (h : DE X e te) (hs : swapsWith e none pos.line X.env = pure false := by rfl) : DS X (.Expr e pos) (qDrop te) := by
  obtain ⟨t1, p, a⟩ := h
  refine ⟨⟨_, ps_expr p hs, fun F σ H ε st Dd D R E h kk => ?_⟩⟩
  exact a F σ H ε st _ _ R E h fun F' v H' x st' s R' r q => kk.nx F' σ H' ε st' s R' (E.mono s.ex) q
def qRet (te : TD) : TDs := fun D ε st => te ε st D.rt
theorem ds_ret {e : Expr} {te : TD} {pos : Pos} (h : DE X e te) : DS X (.Return (some e) pos) (qRet te) := by
  obtain ⟨t1, p, a⟩ := h
  exact ⟨⟨_, ps_ret p, fun F σ H ε st Dd D R E h kk => a F σ H ε st _ _ R E h kk.rt⟩⟩
def qRetN : TDs := fun D _ st => D.rt (.d .none) st
theorem ds_retN {pos : Pos} : DS X (.Return none pos) qRetN := ⟨⟨_, ps_retN, fun F σ H ε st Dd D R E h kk => kk.rt.at R (.d .non) h⟩⟩
def qIfS (c : TDt) (t u : TDs) : TDs := fun D ε st => c ε st fun b s1 => if b = true then t D ε s1 else u D ε s1
theorem ds_if {c : Expr} {a b : List Stmt} {pos : Pos} {tc : TDt} {t u : TDs} (hc : DT X c tc) (ha : DSs X a t) (hb : DSs X b u) : DS X (.If c a b pos) (qIfS tc t u) := by
  obtain ⟨t0, p0, a0⟩ := hc
  obtain ⟨t1, p1, a1⟩ := ha
  obtain ⟨t2, p2, a2⟩ := hb
  refine ⟨⟨_, ps_if p0 p1 p2, fun F σ H ε st Dd D R E h kk => ?_⟩⟩
  refine a0 F σ H ε st _ _ R E h fun F' v H' x st' s R' r q => ?_
  cases r
  cases v with
  | true => exact a1 F' σ H' ε st' _ _ R' (E.mono s.ex) q (kk.step s)
  | false => exact a2 F' σ H' ε st' _ _ R' (E.mono s.ex) q (kk.step s)

/-! ### targets -/
theorem wipe_set {σ : L2.St} {i : Nat} {v : Option V} : ∀ {vs : List Nat}, i ∈ vs → wipe (σ.set i v) vs = wipe σ vs := by
  have comm : ∀ {vs : List Nat} {i : Nat} {σ : L2.St} {v : Option V}, i ∉ vs → wipe (σ.set i v) vs = (wipe σ vs).set i v := by
    intro vs
    induction vs with
    | nil => intros; rfl
    | cons j vs ih =>
      intro i σ v h
      have h1 : i ≠ j := fun e => h (by rw [e]; exact List.mem_cons_self)
      have h2 : i ∉ vs := fun e => h (List.mem_cons_of_mem _ e)
      show (wipe (σ.set i v) vs).set j none = ((wipe σ vs).set j none).set i v
      rw [ih h2, List.set_comm _ _ h1]
  intro vs
  induction vs with
  | nil => intro h; cases h
  | cons j vs ih =>
    intro h
    show (wipe (σ.set i v) vs).set j none = (wipe σ vs).set j none
    by_cases e : i ∈ vs
    · rw [ih e]
    · have e2 : i = j := by
        rcases List.mem_cons.mp h with q | q
        · exact q
        · exact absurd q e
      rw [comm e, ← e2, List.set_set]
def qgN (i : Nat) : TDg := fun x ε st Q => Q (ε.set i (some x)) st
theorem loc_of {i : Nat} {x : Str} (c : Cok P w K mg base X N sc fs k) (h : locB N sc fs i x = true) : X.N[i]? = some x ∧ L2.Loc X.env.scope x ∧ (X.fn x = true ∨ X.env.scope.names.lookup x = some .local) := by
  unfold locB at h
  simp only [Bool.and_eq_true, decide_eq_true_eq] at h
  obtain ⟨h1, h2⟩ := h
  refine ⟨by rw [c.hN]; exact h1, ?_, ?_⟩
  · unfold L2.Loc
    rw [c.hs]
    split at h2 <;> first | exact .inl (by assumption) | exact .inr (by assumption) | cases h2
  · rw [c.hs]
    split at h2
    · exact .inr (by assumption)
    · split at h2
      · exact .inl (c.fn _ (by assumption))
      · cases h2
    · cases h2
theorem dg_name {i : Nat} {x : Str} {pos : Pos} (c : Cok P w K mg base X N sc fs k) (h : locB N sc fs i x = true) : DG X (.Name x pos) [i] (qgN i) := by
  obtain ⟨h1, h2, h3⟩ := loc_of c h
  refine ⟨⟨gName i, pg_name (by rw [c.hN]; exact c.nd) h1 h2 h3, fun F σ H ε st v x Qd Q R E r q kk => ?_⟩⟩
  exact kk F _ H _ st (Step.refl _ _ _) R (E.set r i) (fun vs hv => wipe_set (hv i (by simp))) q
def qgNil : TDgs := fun vs ε st Q => vs = [] ∧ Q ε st
def qgCons (t : TDg) (u : TDgs) : TDgs := fun vs ε st Q => match vs with | [] => False | v :: r => t v ε st fun ε' s' => u r ε' s' Q
theorem dgs_nil : DGs X [] [] qgNil := ⟨⟨_, pgs_nil, fun F σ H ε st v x Qd Q R E r ⟨e, q⟩ kk => by
  subst e
  cases r
  exact ⟨rfl, kk F σ H ε st (Step.refl _ _ _) R E (fun _ _ => rfl) q⟩⟩⟩
theorem dgs_cons {e : Expr} {es : List Expr} {w1 w2 : List Nat} {t : TDg} {u : TDgs} (h : DG X e w1 t) (hr : DGs X es w2 u)
    (hs : (assignEach (e :: es) X.env).map (·.2) = assign e X.env :: (assignEach es X.env).map (·.2) := by rfl) : DGs X (e :: es) (w1 ++ w2) (qgCons t u) := by
  obtain ⟨g, p, a⟩ := h
  obtain ⟨gs, q, b⟩ := hr
  refine ⟨⟨_, pgs_cons p q hs, fun F σ H ε st v x Qd Q R E r h kk => ?_⟩⟩
  cases r with
  | nil => exact h.elim
  | cons r rr =>
    refine ⟨_, _, rfl, a F σ H ε st _ _ _ _ R E r h fun F1 σ1 H1 ε1 st1 s1 R1 E1 w1' h1 => ?_⟩
    exact b F1 σ1 H1 ε1 st1 _ _ _ _ R1 E1 (rr.mono s1.ex) h1 fun F2 σ2 H2 ε2 st2 s2 R2 E2 w2' h2 =>
      kk F2 σ2 H2 ε2 st2 (s1.trans s2) R2 E2 (fun vs hv => (w2' vs fun i hi => hv i (List.mem_append_right _ hi)).trans (w1' vs fun i hi => hv i (List.mem_append_left _ hi))) h2
def qgT (n : Nat) (t : TDgs) : TDg := fun x ε st Q => match titems x with | some xs => xs.length = n ∧ t xs ε st Q | none => False
theorem dg_tup {es : List Expr} {j : Nat} {pos : Pos} {ws : List Nat} {n : Nat} {t : TDgs} (c : Cok P w K mg base X N sc fs k) (h : DGs X es ws t) (hn : (assignEach es X.env).length = n := by rfl) (hst : (assignEach es X.env).findIdx? (·.1) = none := by rfl) : DG X (.Tuple es j pos) ws (qgT n t) := by
  obtain ⟨g, p, a⟩ := h
  refine ⟨⟨_, pg_tup c.calm p hn hst, fun F σ H ε st v x Qd Q R E r h kk => ?_⟩⟩
  unfold qgT at h
  split at h
  · rename_i xs ex
    obtain ⟨b, vs, rfl, q1, s1⟩ := titems_rv r ex
    exact ⟨b, vs, rfl, SqT.of (R.sub _ _ q1).1, s1.length.trans h.1, a F σ H ε st vs xs Qd Q R E s1 h.2 kk⟩
  · exact h.elim

/-! ### assignments -/
def qAsg (te : TD) (g : TDg) : TDs := fun D ε st => te ε st fun x s1 => g x ε s1 D.nx
/-- an environment that bears a scope alone, for the looks at stores -/
def envS (sc : Scope) : PySem.Env := { scope := sc, locals := 0, globals := 0, cells := [], qual := Str.empty, func := none, code := .none, frame := none, builtins := 0 }
theorem kindOf_S (c : Cok P w K mg base X N sc fs k) : ∀ x, X.env.kindOf x = (envS sc).kindOf x := fun x => by
  unfold PySem.Env.kindOf
  rw [c.hs]
  rfl
theorem blockKind_S (c : Cok P w K mg base X N sc fs k) : X.env.blockKind = (envS sc).blockKind := by
  unfold PySem.Env.blockKind
  rw [c.hs]
  rfl
theorem swapped_S (c : Cok P w K mg base X N sc fs k) (ts : List Expr) (v : Expr) : swappedStores ts v X.env = swappedStores ts v (envS sc) := by
  unfold swappedStores
  simp only [kindOf_S c, blockKind_S c]
theorem swaps_S (c : Cok P w K mg base X N sc fs k) (v : Expr) (t : Option Expr) (l : Nat) : swapsWith v t l X.env = swapsWith v t l (envS sc) := by
  unfold swapsWith
  simp only [kindOf_S c, blockKind_S c, c.hs]
  rfl
theorem swapsS_S (c : Cok P w K mg base X N sc fs k) (ts : List Expr) (v : Expr) (l : Nat) : swapsWithSole ts v l X.env = swapsWithSole ts v l (envS sc) := by
  unfold swapsWithSole
  split
  · exact swaps_S c _ _ _
  · rfl
theorem ds_asg {tg e : Expr} {pos : Pos} {ws : List Nat} {te : TD} {g : TDg} (c : Cok P w K mg base X N sc fs k) (he : DE X e te) (hg : DG X tg ws g) (hs : swapsWithSole [tg] e pos.line (envS sc) = pure false) (hw : swappedStores [tg] e (envS sc) = pure none) (h1 : (assignEach [tg] X.env).map (·.2) = [assign tg X.env] := by rfl) : DS X (.Assign [tg] e pos) (qAsg te g) := by
  obtain ⟨t1, p1, a1⟩ := he
  obtain ⟨t2, p2, a2⟩ := hg
  refine ⟨⟨_, ps_asg p1 p2 ((swapsS_S c _ _ _).trans hs) ((swapped_S c _ _).trans hw) h1, fun F σ H ε st Dd D R E h kk => ?_⟩⟩
  refine a1 F σ H ε st _ _ R E h fun F1 v H1 x st1 s1 R1 r q => ?_
  exact a2 F1 σ H1 ε st1 v x _ _ R1 (E.mono s1.ex) r q fun F2 σ2 H2 ε2 st2 s2 R2 E2 _ q2 => kk.nx F2 σ2 H2 ε2 st2 (s1.trans s2) R2 E2 q2
/-- a, b = x, y stored from the right -/
def qPar (i j : Nat) (ta : TDa) : TDs := fun D ε st => ta ε st fun xs s1 => match xs with | [x, y] => D.nx ((ε.set i (some x)).set j (some y)) s1 | _ => False
def parB (N : List Str) (sc : Scope) (i j : Nat) (x y : Str) : Bool := decide (N[i]? = some x) && decide (N[j]? = some y) && decide (i ≠ j) && decide (sc.names.lookup x = some .local) && decide (sc.names.lookup y = some .local)
theorem ds_par {i j : Nat} {x y : Str} {a b : Expr} {ta : TDa} {px py pt pos : Pos} {kt k2 pt2} (c : Cok P w K mg base X N sc fs k) (hb : parB N sc i j x y = true) (ha : DA X [a, b] ta)
    (hw : swappedStores [.Tuple [.Name x px, .Name y py] kt pt] (.Tuple [a, b] k2 pt2) (envS sc) = pure (some [x, y])) :
    DS X (.Assign [.Tuple [.Name x px, .Name y py] kt pt] (.Tuple [a, b] k2 pt2) pos) (qPar i j ta) := by
  unfold parB at hb
  simp only [Bool.and_eq_true, decide_eq_true_eq] at hb
  obtain ⟨⟨⟨⟨h1, h2⟩, h3⟩, h4⟩, h5⟩ := hb
  obtain ⟨t1, p1, a1⟩ := ha
  refine ⟨⟨_, ps_par c.calm (by rw [c.hN]; exact c.nd) (by rw [c.hN]; exact h1) (by rw [c.hN]; exact h2) h3 (by rw [c.hs]; exact h4) (by rw [c.hs]; exact h5) p1 ((swapped_S c _ _).trans hw), fun F σ H ε st Dd D R E h kk => ?_⟩⟩
  refine a1 F σ H ε st _ _ R E h fun F1 v H1 x st1 s1 R1 r q => ?_
  split at q
  · cases r with
    | cons r1 r =>
      cases r with
      | cons r2 r =>
        cases r
        exact ⟨_, _, rfl, kk.nx F1 _ H1 _ st1 s1 R1 (((E.mono s1.ex).set r1 i).set r2 j) q⟩
  · exact q.elim
def qPar3 (i j l : Nat) (ta : TDa) : TDs := fun D ε st => ta ε st fun xs s1 => match xs with | [x, y, z] => D.nx (((ε.set i (some x)).set j (some y)).set l (some z)) s1 | _ => False
def parB3 (N : List Str) (sc : Scope) (i j l : Nat) (x y z : Str) : Bool := parB N sc i j x y && parB N sc i l x z && parB N sc j l y z
theorem ds_par3 {i j l : Nat} {x y z : Str} {a b d : Expr} {ta : TDa} {px py pz pt pos : Pos} {kt k2 pt2} (c : Cok P w K mg base X N sc fs k) (hb : parB3 N sc i j l x y z = true) (ha : DA X [a, b, d] ta)
    (hw : swappedStores [.Tuple [.Name x px, .Name y py, .Name z pz] kt pt] (.Tuple [a, b, d] k2 pt2) (envS sc) = pure (some [x, y, z])) :
    DS X (.Assign [.Tuple [.Name x px, .Name y py, .Name z pz] kt pt] (.Tuple [a, b, d] k2 pt2) pos) (qPar3 i j l ta) := by
  unfold parB3 parB at hb
  simp only [Bool.and_eq_true, decide_eq_true_eq] at hb
  obtain ⟨⟨⟨⟨⟨⟨h1, h2⟩, h3⟩, h4⟩, h5⟩, ⟨⟨⟨⟨_, g2⟩, g3⟩, _⟩, g5⟩⟩, ⟨⟨⟨⟨_, _⟩, f3⟩, _⟩, _⟩⟩ := hb
  obtain ⟨t1, p1, a1⟩ := ha
  refine ⟨⟨_, ps_par3 c.calm (by rw [c.hN]; exact c.nd) (by rw [c.hN]; exact h1) (by rw [c.hN]; exact h2) (by rw [c.hN]; exact g2) h3 g3 f3 (by rw [c.hs]; exact h4) (by rw [c.hs]; exact h5) (by rw [c.hs]; exact g5) p1 ((swapped_S c _ _).trans hw), fun F σ H ε st Dd D R E h kk => ?_⟩⟩
  refine a1 F σ H ε st _ _ R E h fun F1 v H1 x st1 s1 R1 r q => ?_
  split at q
  · cases r with
    | cons r1 r =>
      cases r with
      | cons r2 r =>
        cases r with
        | cons r3 r =>
          cases r
          exact ⟨_, _, _, rfl, kk.nx F1 _ H1 _ st1 s1 R1 ((((E.mono s1.ex).set r1 i).set r2 j).set r3 l) q⟩
  · exact q.elim
/-- name op= e, ints -/
def qAug (i : Nat) (te : TD) (g : Int → Int → Int) : TDs := fun D ε st => match ε[i]? with
  | some (some (.d (.int a))) => te ε st fun y s1 => (match y with | .d (.int b) => D.nx (ε.set i (some (.d (.int (g a b))))) s1 | _ => False)
  | _ => False
theorem ds_aug {i : Nat} {x : Str} {e : Expr} {te : TD} {op : Operator} {g : Int → Int → Int} {pos' pos : Pos} (c : Cok P w K mg base X N sc fs k) (hb : locB N sc fs i x = true) (ho : PIp X op (ipI g)) (he : DE X e te) : DS X (.AugAssign (.Name x pos') op e pos) (qAug i te g) := by
  obtain ⟨h1, h2, h3⟩ := loc_of c hb
  obtain ⟨t1, p1, a1⟩ := he
  refine ⟨⟨_, ps_aug (by rw [c.hN]; exact c.nd) h1 h2 p1 ho h3, fun F σ H ε st Dd D R E h kk => ?_⟩⟩
  unfold qAug at h
  split at h
  · rename_i a e1
    obtain ⟨v, e2, r⟩ := E.2 i _ e1
    cases rv_int r
    refine ⟨_, e2, a1 F σ H ε st _ _ R E h fun F1 v H1 x st1 s1 R1 r1 q => ?_⟩
    split at q
    · cases rv_int r1
      exact ⟨a, _, rfl, rfl, kk.nx F1 _ H1 _ st1 s1 R1 ((E.mono s1.ex).set (.d (.int _)) i) q⟩
    · exact q.elim
  · exact h.elim

/-! ### while -/
/-- the invariant W with its measure -/
def qWhile (c : TDt) (tb : TDs) : TDs := fun D ε st => ∃ W : Nat → Env → Sto → Prop, (∃ m, W m ε st) ∧ ∀ m ε st, W m ε st →
  c ε st fun b s1 => if b = true then tb { D with nx := fun ε' s' => ∃ m', m' < m ∧ W m' ε' s', ct := fun ε' s' => ∃ m', m' < m ∧ W m' ε' s', bk := D.nx } ε s1 else D.nx ε s1
theorem ds_while {e : Expr} {body : List Stmt} {pos : Pos} {tc : TDt} {tb : TDs} (c : Cok P w K mg base X N sc fs k) (hc : DT X e tc) (hb : DSs X body tb) : DS X (.While e body [] pos) (qWhile tc tb) := by
  obtain ⟨t0, p0, a0⟩ := hc
  obtain ⟨t1, p1, a1⟩ := hb
  refine ⟨⟨_, ps_while c.pass p0 p1, fun F σ H ε st Dd D R E h kk => ?_⟩⟩
  obtain ⟨W, ⟨m0, h0⟩, hW⟩ := h
  refine ⟨fun m σ' H' => ∃ F' ε' st', Step F H st F' H' st' ∧ Rs X.K F' H' st' ∧ RE X.K F' σ' ε' ∧ W m ε' st', ⟨m0, F, ε, st, Step.refl _ _ _, R, E, h0⟩, ?_⟩
  rintro m σ' H' ⟨F1, ε1, st1, s1, R1, E1, w1⟩
  refine a0 F1 σ' H' ε1 st1 _ _ R1 E1 (hW m ε1 st1 w1) fun F2 b H2 b' st2 s2 R2 r q => ?_
  cases r
  cases b with
  | true =>
    refine ⟨fun σ3 H3 => ∃ m', m' < m ∧ ∃ F3 ε3 st3, Step F H st F3 H3 st3 ∧ Rs X.K F3 H3 st3 ∧ RE X.K F3 σ3 ε3 ∧ W m' ε3 st3, fun σ3 H3 ⟨m', l, q⟩ => ⟨m', l, q⟩, ?_⟩
    have s12 := s1.trans s2
    refine a1 F2 σ' H2 ε1 st2 _ _ R2 (E1.mono s2.ex) q ⟨?_, (kk.step s12).rt, (kk.step s12).nx, ?_⟩
    · rintro F3 σ3 H3 ε3 st3 s3 R3 E3 ⟨m', l, w3⟩
      exact ⟨m', l, F3, ε3, st3, s12.trans s3, R3, E3, w3⟩
    · rintro F3 σ3 H3 ε3 st3 s3 R3 E3 ⟨m', l, w3⟩
      exact ⟨m', l, F3, ε3, st3, s12.trans s3, R3, E3, w3⟩
  | false => exact kk.nx F2 σ' H2 ε1 st2 (s1.trans s2) R2 (E1.mono s2.ex) q

/-! ### for -/
def qLoop (inv : Sto → Prop) (g : TDg) (tb : TDs) (D : EndsD) : List DV → Env → Sto → Prop
  | [], ε, st => inv st ∧ D.nx ε st
  | x :: r, ε, st => inv st ∧ g x ε st fun ε1 s1 => tb { D with nx := qLoop inv g tb D r, ct := qLoop inv g tb D r, bk := D.nx } ε1 s1
def qFor (ti : TDi) (g : TDg) (tb : TDs) : TDs := fun D ε st => ti ε st fun items inv s1 => qLoop inv g tb D items ε s1
theorem qLoop_inv {inv : Sto → Prop} {g : TDg} {tb : TDs} {D : EndsD} {l : List DV} {ε : Env} {st : Sto} (h : qLoop inv g tb D l ε st) : inv st := by
  cases l with
  | nil => exact h.1
  | cons x r => exact h.1
theorem ds_for {tg iter : Expr} {body : List Stmt} {pos : Pos} {ws : List Nat} {ti : TDi} {g : TDg} {tb : TDs} (c : Cok P w K mg base X N sc fs k) (hi : DI X tg iter ti) (hg : DG X tg ws g) (hb : DSs X body tb) (hs : ∀ x, foldedSetIterable iter X.env x = pure x := by intro _; rfl) : DS X (.For tg iter body [] pos) (qFor ti g tb) := by
  obtain ⟨wi, p0, a0⟩ := hi
  obtain ⟨gg, p1, a1⟩ := hg
  obtain ⟨ts, p2, a2⟩ := hb
  refine ⟨⟨_, ps_for c.pass c.calm p0 p1 p2 hs, fun F σ H ε st Dd D R E h kk => ?_⟩⟩
  refine a0 F σ H ε st _ _ R E h fun F1 J H1 items inv st1 s1 R1 src q => ?_
  refine ⟨fun i m σ' H' => i ≤ items.length ∧ m = items.length - i ∧ ∃ F' ε' st', Step F1 H1 st1 F' H' st' ∧ Rs X.K F' H' st' ∧ RE X.K F' σ' ε' ∧ qLoop inv g tb Dd (items.drop i) ε' st',
    ⟨items.length, Nat.zero_le _, by omega, F1, ε, st1, Step.refl _ _ _, R1, E.mono s1.ex, by rw [List.drop_zero]; exact q⟩, ?_⟩
  rintro i m σ' H' ⟨hi, rfl, F2, ε2, st2, s2, R2, E2, q2⟩
  have iv := qLoop_inv q2
  obtain ⟨src1, src2⟩ := src F2 H' st2 s2.ex R2 iv
  have s12 := s1.trans s2
  by_cases hlt : i < items.length
  · have ed : items.drop i = items[i] :: items.drop (i + 1) := List.drop_eq_getElem_cons hlt
    rw [ed] at q2
    obtain ⟨go, yl⟩ := src1 i items[i] (List.getElem?_eq_getElem hlt)
    refine .inr ⟨go, fun σ' H' => ∃ F' ε' st', Step F1 H1 st1 F' H' st' ∧ Rs X.K F' H' st' ∧ RE X.K F' σ' ε' ∧ qLoop inv g tb Dd (items.drop (i + 1)) ε' st', fun σ3 H3 q3 => ⟨items.length - (i + 1), by omega, hlt, rfl, q3⟩, fun v H3 y => ?_⟩
    obtain ⟨F3, s3, R3, r3⟩ := yl v H3 y
    refine a1 F3 σ' H3 ε2 st2 v items[i] _ _ R3 (E2.mono s3.ex) r3 q2.2 fun F4 σ4 H4 ε4 st4 s4 R4 E4 _ q4 => ?_
    have s24 := s2.trans (s3.trans s4)
    refine a2 F4 σ4 H4 ε4 st4 _ _ R4 E4 q4 ⟨?_, (kk.step (s1.trans s24)).rt, (kk.step (s1.trans s24)).nx, ?_⟩
    · exact fun F5 σ5 H5 ε5 st5 s5 R5 E5 q5 => ⟨F5, ε5, st5, s24.trans s5, R5, E5, q5⟩
    · exact fun F5 σ5 H5 ε5 st5 s5 R5 E5 q5 => ⟨F5, ε5, st5, s24.trans s5, R5, E5, q5⟩
  · have e : i = items.length := by omega
    subst e
    rw [List.drop_length] at q2
    exact .inl ⟨src2, kk.nx F2 σ' H' ε2 st2 s12 R2 E2 q2.2⟩

/-! ### comprehensions -/
theorem Step.hid {F H F' H' : Hp} {st st' : Sto} {p : Addr} {o : HO} (s : Step F H st F' H' st') (h : H p = some o) (f : F p = none) (e : st p = none) (ht : ∀ ts, o ≠ .tup ts := by intro _ z; cases z) : H' p = some o ∧ F' p = none ∧ st' p = none := by
  obtain ⟨h1, h2⟩ := s.pres p o h e
  refine ⟨h1, ?_, h2⟩
  cases q : F' p with
  | none => rfl
  | some u =>
    rcases s.fnew p u q with z | z | z | ⟨ts, z⟩
    · exact absurd f z
    · rw [h] at z; cases z
    · exact absurd e z
    · rw [h] at z
      cases z
      exact absurd rfl (ht ts)
theorem Step.hput {F H F' H' : Hp} {st st' : Sto} {p : Addr} {o : HO} (s : Step F H st F' H' st') (h : H p = none) : Step F H st F' (upd H' p o) st' :=
  ⟨s.ex, fun a u e k => ⟨by rw [upd_ne (fun q => by rw [q, h] at e; cases e)]; exact (s.pres a u e k).1, (s.pres a u e k).2⟩, s.fnew⟩
/-- a hidden list comes into sight -/
theorem seen_lst {F0 H0 F H : Hp} {st0 st : Sto} {p : Addr} {vs : List V} {xs : List DV} {m : Bool} {Qd : DV → Sto → Prop} {Q : VK} (s : Step F0 H0 st0 F H st) (h0 : H0 p = none) (R : Rs K F H st) (hp : H p = some (.lst vs)) (f : F p = none) (e : st p = none) (r : RVs K F vs xs)
    (q : newL m xs st Qd) (kk : Kg (RV K) K F0 H0 st0 Qd Q) : Q (.ref p) H := by
  cases m with
  | true =>
    refine kk F (.ref p) H (.r p) (up st p (.lst xs)) ⟨s.ex, fun a u ha k => ?_, s.fnew⟩ ⟨fun a u ha => ?_, fun a m ha => ?_⟩ (.r p) (q p e)
    · rw [up_ne (fun z => by rw [z, h0] at ha; cases ha)]; exact s.pres a u ha k
    · rw [up_ne (fun z => by rw [z, f] at ha; cases ha)]; exact R.sub a u ha
    · by_cases z : a = p
      · subst z; rw [up_same] at ha; cases ha; exact ⟨vs, hp, r⟩
      · rw [up_ne z] at ha; exact R.ok a m ha
  | false =>
    unfold newL at q
    simp only at q
    split at q
    rotate_left
    · exact q.elim
    rename_i ds ed
    have ed2 := datas_eq ed
    subst ed2
    have ex : ∀ a o, F a = some o → upd F p (.lst vs) a = some o := fun a o ha => by rw [upd_ne (fun z => by rw [z, f] at ha; cases ha)]; exact ha
    refine kk (upd F p (.lst vs)) (.ref p) H (.d (.list ds)) st ⟨fun a o ha => ex a o (s.ex a o ha), s.pres, fun a u ha => ?_⟩ ⟨fun a u ha => ?_, fun a m ha => MOk.mono ex rfl (R.ok a m ha)⟩ (.d (.lst (SqL.of upd_same) (r.mono ex).all)) q
    · by_cases z : a = p
      · subst z; exact .inr (.inl h0)
      · rw [upd_ne z] at ha; exact s.fnew a u ha
    · by_cases z : a = p
      · subst z; rw [upd_same] at ha; cases ha; exact ⟨hp, e⟩
      · rw [upd_ne z] at ha; exact R.sub a u ha
def qComp (inv : Sto → Prop) (g : TDg) (tt : TDt) (te : TD) (ε : Env) (Kc : List DV → Sto → Prop) : List DV → List DV → Sto → Prop
  | [], acc, st => inv st ∧ Kc acc st
  | x :: r, acc, st => inv st ∧ g x ε st fun ε1 s1 => tt ε1 s1 fun b s2 => if b = true then te ε1 s2 fun y s3 => qComp inv g tt te ε Kc r (acc ++ [y]) s3 else qComp inv g tt te ε Kc r acc s2
theorem qComp_inv {inv : Sto → Prop} {g : TDg} {tt : TDt} {te : TD} {ε : Env} {Kc : List DV → Sto → Prop} {l acc : List DV} {st : Sto} (h : qComp inv g tt te ε Kc l acc st) : inv st := by
  cases l with
  | nil => exact h.1
  | cons x r => exact h.1
def qLc (m : Bool) (ti : TDi) (g : TDg) (tt : TDt) (te : TD) (vs : List Nat) : TD := fun ε st Q => ti ε st fun items inv s1 => items.length ≤ sizeLine ∧ qComp inv g tt te (wipeD ε vs) (fun acc s2 => newL m acc s2 Q) items [] s1
structure DTs (X : Cx) (ifs : List Expr) (t : TDt) : Prop where
  ex : ∃ te, PTs X ifs te ∧ Sg relT X.K te t
def qYes : TDt := fun _ st Q => Q true st
theorem dts_nil : DTs X [] qYes := ⟨⟨_, pts_nil, fun F σ H ε st Qd Q R E h kk => kk.at R rfl h⟩⟩
theorem dts_one {e : Expr} {t : TDt} (h : DT X e t) : DTs X [e] t := let ⟨te, p, a⟩ := h.ex; ⟨⟨te, pts_one p, a⟩⟩
theorem Cok.blk (c : Cok P w K mg base X N sc fs k) {scope : Scope} (hk : scope.kind = .function) (s : Shared) (H : Hp) (C : Addr) (cl : List (Str × Addr)) (fp : List Addr) :
    Cok P w K mg base (X.blk s H scope (compEnvC scope cl C X.env) fp) N (relS scope sc) scope k where
  hP := c.hP
  hw := c.hw
  hK := c.hK
  hmg := c.hmg
  hb := c.hb
  hN := c.hN
  nd := c.nd
  kind := hk
  hs := by
    show relabel scope X.env = relS scope sc
    have e := c.hs
    unfold relabel relS PySem.Env.kindOf
    rw [e]
  calm := c.calm
  fn := fun x h => by
    show (scope.names.lookup x == some NameKind.cell) = true
    rw [h]
    rfl
  room := c.room
  pass := fun _ _ h => h.elim
theorem comp_sim {wi : TI} {g : TG} {tt : TT} {te : TE} {ti : TDi} {gd : TDg} {ttd : TDt} {ted : TD} {m : Bool} {vs ws : List Nat} (hv : ∀ i ∈ ws, i ∈ vs)
    (a0 : ∀ F σ H ε st Qd R', Rs K F H st → RE K F σ ε → ti ε st Qd → (∀ F' J H' items inv st', Step F H st F' H' st' → Rs K F' H' st' → Src K F' J items inv → Qd items inv st' → R' J H') → wi σ H R')
    (a1 : ∀ F σ H ε st v x Qd Q, Rs K F H st → RE K F σ ε → RV K F v x → gd x ε st Qd → (∀ F' σ' H' ε' st', Step F H st F' H' st' → Rs K F' H' st' → RE K F' σ' ε' → (∀ vs : List Nat, (∀ i ∈ ws, i ∈ vs) → wipe σ' vs = wipe σ vs) → Qd ε' st' → Q σ' H') → g v σ H Q)
    (a2 : Sg relT K tt ttd) (a3 : Sg (RV K) K te ted) : Sg (RV K) K (tLc wi g tt te vs) (qLc m ti gd ttd ted vs) := by
  intro F σ H ε st Qd Q R E h kk
  refine a0 F σ H ε st _ _ R E h fun F1 J H1 items inv st1 s1 R1 src q => ?_
  intro D hD
  obtain ⟨hsz, q⟩ := q
  obtain ⟨f0, d0⟩ := R1.free hD
  obtain ⟨R1', s1'⟩ := R1.hide (o := .lst []) hD
  refine ⟨fun i mm H' => i ≤ items.length ∧ mm = items.length - i ∧ ∃ F' st' acc accD, Step F1 H1 st1 F' H' st' ∧ Rs K F' H' st' ∧ H' D = some (.lst acc) ∧ F' D = none ∧ st' D = none ∧ RVs K F' acc accD ∧ acc.length ≤ i ∧ qComp inv gd ttd ted (wipeD ε vs) (fun acc s2 => newL m acc s2 Qd) (items.drop i) accD st',
    ⟨items.length, Nat.zero_le _, by omega, F1, st1, [], [], s1', R1', upd_same, f0, d0, .nil, Nat.le_refl _, by rw [List.drop_zero]; exact q⟩, ?_⟩
  rintro i mm H2 ⟨hi, rfl, F2, st2, acc, accD, s2, R2, hD2, f2, d2, r2, hl, q2⟩
  have iv := qComp_inv q2
  obtain ⟨src1, src2⟩ := src F2 H2 st2 s2.ex R2 iv
  by_cases hlt : i < items.length
  · have ed : items.drop i = items[i] :: items.drop (i + 1) := List.drop_eq_getElem_cons hlt
    rw [ed] at q2
    obtain ⟨go, yl⟩ := src1 i items[i] (List.getElem?_eq_getElem hlt)
    refine .inr ⟨go, fun H' => ∃ F' st' acc accD, Step F1 H1 st1 F' H' st' ∧ Rs K F' H' st' ∧ H' D = some (.lst acc) ∧ F' D = none ∧ st' D = none ∧ RVs K F' acc accD ∧ acc.length ≤ i + 1 ∧ qComp inv gd ttd ted (wipeD ε vs) (fun acc s2 => newL m acc s2 Qd) (items.drop (i + 1)) accD st',
      fun H' q' => ⟨items.length - (i + 1), by omega, hlt, rfl, q'⟩, fun v H3 y => ?_⟩
    obtain ⟨F3, s3, R3, r3⟩ := yl v H3 y
    have E3 : RE K F3 (wipe σ vs) (wipeD ε vs) := (E.mono (s1.trans (s2.trans s3)).ex).wipe vs
    refine a1 F3 _ H3 _ st2 v items[i] _ _ R3 E3 r3 q2.2 fun F4 σ4 H4 ε4 st4 s4 R4 E4 w4 q4 => ?_
    refine ⟨(w4 vs hv).trans (wipe_idem σ vs), ?_⟩
    refine a2 F4 σ4 H4 ε4 st4 _ _ R4 E4 q4 fun F5 b H5 b' st5 s5 R5 rb q5 => ?_
    cases rb
    have s25 := s2.trans (s3.trans (s4.trans s5))
    obtain ⟨hD5, f5, d5⟩ := (s3.trans (s4.trans s5)).hid hD2 f2 d2
    cases b with
    | true =>
      refine a3 F5 σ4 H5 ε4 st5 _ _ R5 (E4.mono s5.ex) q5 fun F6 y H6 y' st6 s6 R6 ry q6 => ?_
      obtain ⟨hD6, f6, d6⟩ := s6.hid hD5 f5 d5
      refine ⟨acc, hD6, by omega, F6, st6, acc ++ [y], accD ++ [y'], (s25.trans s6).hput hD, R6.hput f6 d6, upd_same, f6, d6, (r2.mono ((s3.trans (s4.trans s5)).trans s6).ex).append (.cons ry .nil), by rw [List.length_append]; simp only [List.length_singleton]; omega, q6⟩
    | false => exact ⟨F5, st5, acc, accD, s25, R5, hD5, f5, d5, r2.mono (s3.trans (s4.trans s5)).ex, by omega, q5⟩
  · have e : i = items.length := by omega
    subst e
    rw [List.drop_length] at q2
    exact .inl ⟨src2, seen_lst s2 hD R2 hD2 f2 d2 r2 q2.2 (kk.step s1)⟩
where
  wipe_idem (σ : L2.St) (vs : List Nat) : wipe (wipe σ vs) vs = wipe σ vs := by
    have h : ∀ us : List Nat, (∀ i ∈ us, i ∈ vs) → wipe (wipe σ us) vs = wipe σ vs := by
      intro us
      induction us with
      | nil => intro _; rfl
      | cons j us ih =>
        intro hu
        show wipe ((wipe σ us).set j none) vs = _
        rw [wipe_set (hu j List.mem_cons_self)]
        exact ih fun i hi => hu i (List.mem_cons_of_mem _ hi)
    exact h vs fun _ z => z
end
end DL
end

section
set_option Elab.async false
set_option linter.all false
set_option maxRecDepth 100000
set_option maxHeartbeats 4000000
/-! enumerate over a tuple, at the machine's level -/
namespace DLM
open PySem PySem.Spec
open AutoSeq1 (wpAny_loadPart')
theorem meets_enumerate_newT (l : Addr) (items : Array Value) (n : Nat) (dct : Option Addr) (sl : Array (Option Value)) :
    Meets (Builtin.«enumerate.__new__» ⟨[.type "enumerate", .ref l], []⟩) (fun _ R s => s.heap.get? l = some { cls := .type "tuple", dict := dct, data := .seq items n, slots := sl } ∧
      R (.ok (.ret (.ref (s.heap.push { cls := .type "tuple_iterator", data := .fields #[.ref l, .int 0 0] }).objs.size)))
        { s with heap := (s.heap.push { cls := .type "tuple_iterator", data := .fields #[.ref l, .int 0 0] }).push { cls := .type "enumerate", data := .fields #[.none, .bool false, .ref s.heap.objs.size, rawInt 0, .none, .none] } }) :=
  .of_wp fun prog w A R s h => by
    obtain ⟨hp, g, d, tk, os⟩ := s; obtain ⟨hl, h⟩ := h
    have hsub := sub_enumerate
    have hL : Heap.IsTuple (Shared.heap ⟨hp, g, d, tk, os⟩) l items := ⟨_, hl, rfl, n, rfl⟩
    wp_walk using wpAny_loadPart' hl
    refine wpAny_stack_any fun st => wpAny_pure ?_
    split
    · rename_i c _ _ _ _ _
      cases (c == Value.type "enumerate")
      · wp_walk using wpAny_loadPart' hl, wpAny_pyIter_tuple hL
        exact ⟨_, rfl, h⟩
      · wp_walk using wpAny_loadPart' hl, wpAny_pyIter_tuple hL
        exact ⟨_, rfl, h⟩
    · wp_walk using wpAny_loadPart' hl, wpAny_pyIter_tuple hL
      exact ⟨_, rfl, h⟩
section
variable {prog : Program} {w : World} {A : Around} {E : Value → Shared → Prop} {s : Shared}
theorem call_enumerate_tuple {l : Addr} {items : Array Value} {Q : Value → Shared → Prop} (hL : s.heap.IsTuple l items)
    (h : ∀ h', IsEnum h' (s.heap.objs.size + 1) s.heap.objs.size 0 .none → h'.IsTupleIter s.heap.objs.size l 0 → h'.objs.size = s.heap.objs.size + 2 →
      (∀ b o, s.heap.get? b = some o → h'.get? b = some o) → Q (.ref (s.heap.objs.size + 1)) { s with heap := h' }) :
    wpAny (model prog w) A (call (.type "enumerate") [.ref l]) Q E s := by
  obtain ⟨⟨c, dct, dt, sl⟩, hl, hc, n, hd⟩ := hL
  replace hc : c = .type "tuple" := hc
  replace hd : dt = .seq items n := hd
  subst hc hd
  refine callType_new F.called_enumerate (by decide) (F.typeCall_enumerate_1 _) (F.newCall_enumerate_1 _) (fun obj => F.args_object_init_2 obj _) F.entry_enumerate_new
    (meets_enumerate_newT l items n dct sl) ⟨hl, ?_⟩
  have hz : (s.heap.push { cls := .type "tuple_iterator", data := .fields #[.ref l, .int 0 0] }).objs.size = s.heap.objs.size + 1 := Heap.size_push ..
  show _ ∧ _
  rw [hz]
  have he : IsEnum ((s.heap.push { cls := .type "tuple_iterator", data := .fields #[.ref l, .int 0 0] }).push
      { cls := .type "enumerate", data := .fields #[.none, .bool false, .ref s.heap.objs.size, rawInt 0, .none, .none] }) (s.heap.objs.size + 1) s.heap.objs.size 0 .none := by
    have := Heap.get?_push_size (s.heap.push { cls := .type "tuple_iterator", data := .fields #[.ref l, .int 0 0] })
      (o := { cls := .type "enumerate", data := .fields #[.none, .bool false, .ref s.heap.objs.size, rawInt 0, .none, .none] }) rfl
    rw [hz] at this; exact this
  refine ⟨⟨_, he, rfl⟩, h _ he ⟨_, Heap.get?_push_of_some _ (Heap.get?_push_size _ rfl), rfl, rfl⟩ (by rw [Heap.size_push, hz]) fun b o x => Heap.get?_push_of_some _ (Heap.get?_push_of_some _ x)⟩
end
end DLM
namespace L2
open PySem PySem.Spec PyProof.Rows
def IteT (K : PySem.W.Frag) (a : Addr) : It :=
  ⟨fun i H => ∃ (xs : List V) (x : V), SqT K H a xs ∧ xs[i]? = some x, fun i H v H' => ∃ T x, v = .ref T ∧ H T = none ∧ H' = upd H T (.tup [.int (i : Nat), x]) ∧ ∀ xs, SqT K H a xs → xs[i]? = some x, fun i H => ∃ xs : List V, SqT K H a xs ∧ xs.length ≤ i⟩
theorem turn_enumT {P : Program} {w : World} {K : PySem.W.Frag} {elts : List Expr} {kk : Nat} {tpos : Pos} (a e it : Addr) :
    Turn P w K (.Tuple elts kk tpos) (IteT K a) [e, it] e (fun i h => (∃ old, IsEnum h e it ((i : Nat) : Int) old) ∧ h.IsTupleIter it a i ∧ e ≠ it) where
  mem := by simp
  obj := fun i h st b hb => by
    obtain ⟨⟨old, he⟩, ⟨o, ho, hc, hd⟩, _⟩ := st
    have e' : b = e ∨ b = it := by simpa using hb
    rcases e' with z | z
    · rw [z]; exact ⟨_, he, fun v q => nomatch q⟩
    · rw [z]; exact ⟨o, ho, fun v q => by rw [hd] at q; cases q⟩
  keep := fun i h h' st k => let ⟨⟨old, he⟩, hi, hne⟩ := st; ⟨⟨old, k e (by simp) _ he⟩, hi.at fun o q => k it (by simp) o q, hne⟩
  item := by
    intro X hP hw hK hc i pins s σ H E I hf st hg
    subst hP hw hK
    obtain ⟨⟨old, he⟩, hit, hne⟩ := st
    obtain ⟨xs, x, hq, hx⟩ := hg
    obtain ⟨its, rv, p, hz⟩ := I.tuple hq
    obtain ⟨u, hu, ru⟩ := rv.get hx
    have hel : e < s.heap.objs.size := Heap.lt_size he
    have hil : it < s.heap.objs.size := by obtain ⟨_, q, _⟩ := hit; exact Heap.lt_size q
    have hi : i < its.toArray.size := by
      have := (List.getElem?_eq_some_iff.mp hu).1
      simpa using this
    have hai : a ≠ it := by
      obtain ⟨o1, q1, c1, _⟩ := id p
      obtain ⟨o2, q2, c2, _⟩ := id hit
      intro z
      rw [z, q2] at q1
      cases q1
      rw [c1] at c2
      exact absurd (Value.type.inj c2) (by decide)
    have hae : e ≠ a := by
      obtain ⟨o1, q1, c1, _⟩ := id p
      intro z
      rw [← z, he] at q1
      cases q1
      exact absurd (Value.type.inj c1) (by decide)
    have D := PySem.Draws.tuple (prog := X.prog) (w := X.w) (A := X.A.in1) (I.ok.hd hc) it a hai its.toArray
    refine wpAny_pyNext_enum_itemD D he ⟨hit, p⟩ hi hne (by simp [hne, hae]) fun y h' tk hP ho hst hT hsz hk => ?_
    have ey : y = u := by
      rw [List.getElem?_toArray, hu] at hP
      exact (Option.some.inj hP).symm
    subst ey
    refine ⟨_, rfl, wpAny_letOwnedTupleGo_enum (s := { s with heap := h', toks := tk + 1 }) ho fun h'' he' sb => ?_⟩
    have hT2 : h''.get? s.heap.objs.size = some { cls := .type "tuple", data := .seq #[.int i tk, y] } := (sb.2 _ (Nat.ne_of_gt hel)).trans hT
    have new : ObjOk X.prog X.w (upd H s.heap.objs.size (.tup [.int (i : Nat), x])) h'' s.heap.objs.size (.tup [.int (i : Nat), x]) :=
      ⟨by show 2 ≤ sizeLine; decide, [.int i tk, y], .cons ⟨_, rfl⟩ (.cons ru .nil), ⟨_, hT2, rfl, _, rfl⟩⟩
    have I1 : Inv X pins σ (upd H s.heap.objs.size (.tup [.int (i : Nat), x])) { s with heap := h'', toks := tk + 1 } :=
      I.turnedNew (ch := [e, it]) (fun b ob hb q => (sb.2 b (fun z => hb (by simp [z]))).trans (hk b ob (fun z => hb (by simp [z])) (fun z => hb (by simp [z])) q)) hf (Nat.le_refl _) new
    refine ⟨.ref s.heap.objs.size, _, I1, rfl, ⟨_, x, rfl, I.hok.fresh (Nat.le_refl _), rfl, fun ys hy => by rw [I.tuple_inj hy hq]; exact hx⟩, ⟨⟨y, ?_⟩, hst.1.at fun o q => (sb.2 it (Ne.symm hne)).trans q, hne⟩, fun b hb => ?_⟩
    · have e1 : ((i + 1 : Nat) : Int) = (i : Int) + 1 := by omega
      rw [e1]; exact he'
    · have hb' : b < s.heap.objs.size := by
        have e' : b = e ∨ b = it := by simpa using hb
        rcases e' with z | z
        · rw [z]; exact hel
        · rw [z]; exact hil
      rw [upd_ne (Nat.ne_of_lt hb')]
      exact (hf b hb).1
  done := by
    intro X hP hw hK hc i pins s σ H E I hf st hg
    subst hP hw hK
    obtain ⟨⟨old, he⟩, hit, hne⟩ := st
    obtain ⟨xs, hq, hx⟩ := hg
    obtain ⟨its, rv, p, hz⟩ := I.tuple hq
    obtain ⟨f0, f1, f2, f3, f4, f5⟩ := hf it (by simp)
    have hl := rv.length
    have hT : s.TypeIs (.ref e) "enumerate" := ⟨_, he, rfl⟩
    unfold pyNext
    refine wpAny_bind (wpAny_attempt (wpAny_callSpecial?_slot (name := Str.ofString "__next__") hT F.slot_enumerate_next
      (wpAny_call_entry F.slot_enumerate_next hT F.entry_enumerate_next ?_ (F.args_enumerate_next_1 _))))
    show wpAny _ _ (field (.ref e) 2 >>= _) _ _ _
    refine wpAny_bind (wpAny_field he rfl (x := .ref it) rfl ?_)
    refine wpAny_bind (wpAny_nextOf_tuple_end (I.ok.hd hc) hit p (by simp; omega) fun h' y he' hx' => ?_)
    obtain ⟨o, ho, hc⟩ := hx'
    refine wpAny_bind (wpAny_isInstance (T := "StopIteration") (b := true) ⟨o, ho, hc⟩ isSubtype_stop ?_)
    exact wpAny_pure ⟨rfl, I.turned (t' := s.toks) (fun b o hb q => he' b o hb q) f0 f1 f3 f4 f5⟩
  self := fun A i s Q E st h => let ⟨⟨_, he⟩, _⟩ := st; wpAny_pyIter_enum he h
def iEnumA (K : PySem.W.Frag) (ta : TA) : TI := fun σ H R => ta σ H fun vs H1 => ∃ a xs, vs = [.ref a] ∧ ((SqL K H1 a xs ∧ R (Ite K a) H1) ∨ (SqT K H1 a xs ∧ R (IteT K a) H1))
theorem pi_enumA {X : Cx} {e : Expr} {ta : TA} {p pos tpos : Pos} {elts : List Expr} {kk : Nat} (hg : Gl X "enumerate") (hm : X.mg "enumerate" = none) (ha : PA X [e] ta) (hs : starEach [e] X.env = [(false, eval e X.env)] := by rfl) :
    PI X (.Tuple elts kk tpos) (.Call (.Name "enumerate" p) [e] [] pos) (iEnumA X.K ta) := by
  refine ⟨fun pins s σ H R I h => ?_⟩
  refine Call_ (ld_blt I hg hm boot_enumerate (PyProof.Rows.callWith_type1 (thn (ha.run pos pins s σ H _ I h) fun us s1 ⟨vs, H1, I1, r1, q1⟩ => ?_) hs rfl))
  obtain ⟨a, xs, ex, q⟩ := q1
  subst ex
  cases r1 with
  | cons r rr =>
    cases rr
    cases r
    have fresh2 : ∀ b, b ∈ [s1.heap.objs.size + 1, s1.heap.objs.size] → FpOk X pins H1 b := fun b hb => by
      have e' : b = s1.heap.objs.size + 1 ∨ b = s1.heap.objs.size := by simpa using hb
      have hle : s1.heap.objs.size ≤ b := by
        rcases e' with z | z
        · rw [z]; exact Nat.le_add_right _ _
        · rw [z]; exact Nat.le_refl _
      exact I1.fpOk hle (I1.hok.fresh hle)
    rcases q with ⟨hq, q⟩ | ⟨hq, q⟩
    · obtain ⟨its, rv, p', hz⟩ := I1.list hq
      refine call_enumerate_list p'.isList fun h' he hit hsz hk => wpAny_pyIter_enum he ?_
      have I2 : Inv X pins σ H1 { s1 with heap := h' } := I1.kept (t' := s1.toks) hk
      exact ⟨s1.heap.objs.size + 1, [s1.heap.objs.size + 1, s1.heap.objs.size], _, _, H1, rfl, I2, turn_enum a (s1.heap.objs.size + 1) s1.heap.objs.size, ⟨⟨.none, he⟩, hit, Nat.succ_ne_self _⟩, fresh2, q⟩
    · obtain ⟨its, rv, p', hz⟩ := I1.tuple hq
      refine DLM.call_enumerate_tuple (show s1.heap.IsTuple a its.toArray from p') fun h' he hit hsz hk => wpAny_pyIter_enum he ?_
      have I2 : Inv X pins σ H1 { s1 with heap := h' } := I1.kept (t' := s1.toks) hk
      exact ⟨s1.heap.objs.size + 1, [s1.heap.objs.size + 1, s1.heap.objs.size], _, _, H1, rfl, I2, turn_enumT a (s1.heap.objs.size + 1) s1.heap.objs.size, ⟨⟨.none, he⟩, hit, Nat.succ_ne_self _⟩, fresh2, q⟩
def iSeq (K : PySem.W.Frag) (tl : TE) : TI := fun σ H R => tl σ H fun x H1 => ∃ a xs, x = .ref a ∧ ((SqL K H1 a xs ∧ R (Itl K a) H1) ∨ (SqT K H1 a xs ∧ R (Itt K a) H1))
theorem pi_seq {X : Cx} {tg l : Expr} {tl : TE} (hl : PE X l tl) : PI X tg l (iSeq X.K tl) := by
  refine ⟨fun pins s σ H R I h => ?_⟩
  refine thn (hl.run pins s σ H _ I h) fun v s1 ⟨x, H1, I1, r1, q1⟩ => ?_
  obtain ⟨a, xs, e, q⟩ := q1
  subst e
  cases r1
  have fresh1 : ∀ b, b ∈ [s1.heap.objs.size] → FpOk X pins H1 b := fun b hb => by
    have e : b = s1.heap.objs.size := by simpa using hb
    subst e
    exact I1.fpOk (Nat.le_refl _) (I1.hok.fresh (Nat.le_refl _))
  rcases q with ⟨hq, q⟩ | ⟨hq, q⟩
  · obtain ⟨its, rv, p, hz⟩ := I1.list hq
    refine wpAny_pyIter_list p.isList ?_
    exact ⟨s1.heap.objs.size, [s1.heap.objs.size], _, _, H1, rfl, I1.kept (t' := s1.toks) fun b o e => Heap.get?_push_of_some _ e, turn_list a _, ⟨_, Heap.get?_push_size _ rfl, rfl, rfl⟩, fresh1, q⟩
  · obtain ⟨its, rv, p, hz⟩ := I1.tuple hq
    refine wpAny_pyIter_tuple (show s1.heap.IsTuple a its.toArray from p) ?_
    exact ⟨s1.heap.objs.size, [s1.heap.objs.size], _, _, H1, rfl, I1.kept (t' := s1.toks) fun b o e => Heap.get?_push_of_some _ e, turn_tuple a _, ⟨_, Heap.get?_push_size _ rfl, rfl, rfl⟩, fresh1, q⟩
end L2
end

section
set_option Elab.async false
set_option linter.all false
set_option maxRecDepth 100000
set_option maxHeartbeats 4000000
namespace DL
open PySem L2 PyProof.Rows
section
variable {P : Program} {w : World} {K : PySem.W.Frag} {mg : Str → Option Value} {base : Heap} {X : Cx} {N : List Str} {sc fs : Scope} {k : Nat}
theorem gl_of {x : Str} (c : Cok P w K mg base X N sc fs k) (h : glB sc x = true) : Gl X x ∧ x ≠ "__name__" ∧ (x == ("__debug__" : Str)) = false := by
  unfold glB at h
  simp only [Bool.and_eq_true, Bool.not_eq_true'] at h
  obtain ⟨⟨h1, h2⟩, h3⟩ := h
  refine ⟨?_, fun e => ?_, h2⟩
  · show X.env.kindOf x = some .globalImplicit
    rw [kindOf_S c]
    show sc.names.lookup x = _
    split at h1
    · assumption
    · cases h1
  · subst e
    exact absurd h3 (by decide)

/-! ### what is walked -/
def lsrc (st : Sto) : DV → Option (List DV × (Sto → Prop))
  | .d (.list xs) => some (xs.map .d, fun _ => True)
  | .r a => match st a with | some (.lst xs) => some (xs, fun s => s a = some (.lst xs)) | _ => none
  | _ => none
theorem lsrc_at {F0 H0 : Hp} {st0 : Sto} {v : V} {x : DV} {xs : List DV} {inv : Sto → Prop} (R0 : Rs K F0 H0 st0) (r : RV K F0 v x) (h : lsrc st0 x = some (xs, inv)) :
    ∃ a, v = .ref a ∧ (∃ vs, SqL K H0 a vs) ∧ inv st0 ∧ ∀ F H st, (∀ a o, F0 a = some o → F a = some o) → Rs K F H st → inv st → ∃ vs, SqL K H a vs ∧ RVs K F vs xs := by
  cases x with
  | d z =>
    cases z with
    | list ds =>
      cases h
      cases r with
      | d r =>
        cases r with
        | lst q s => exact ⟨_, rfl, ⟨_, SqL.mono (Rs.ex F0 H0 st0 R0) q⟩, True.intro, fun F H st e R _ => ⟨_, SqL.mono (fun a o z => Rs.ex F H st R a o (e a o z)) q, (s.mono e).rvs⟩⟩
    | _ => cases h
  | t ys => cases h
  | r a =>
    cases r
    unfold lsrc at h
    simp only at h
    cases e : st0 a with
    | none => rw [e] at h; cases h
    | some m =>
      rw [e] at h
      cases m with
      | lst ys =>
        cases h
        obtain ⟨vs, q, s⟩ := R0.ok a _ e
        refine ⟨a, rfl, ⟨vs, SqL.of q⟩, e, fun F H st _ R iv => ?_⟩
        obtain ⟨vs, q, s⟩ := R.ok a _ iv
        exact ⟨vs, SqL.of q, s⟩
      | dK _ => cases h
      | dT _ => cases h
      | ins _ _ => cases h
theorem tsrc_at {F0 H0 : Hp} {st0 : Sto} {v : V} {x : DV} {xs : List DV} (R0 : Rs K F0 H0 st0) (r : RV K F0 v x) (h : titems x = some xs) :
    ∃ a, v = .ref a ∧ (∃ vs, SqT K H0 a vs) ∧ ∀ F H st, (∀ a o, F0 a = some o → F a = some o) → Rs K F H st → ∃ vs, SqT K H a vs ∧ RVs K F vs xs := by
  obtain ⟨a, vs, e, q, s⟩ := titems_rv r h
  exact ⟨a, e, ⟨vs, SqT.of (R0.sub _ _ q).1⟩, fun F H st e R => ⟨vs, SqT.of (R.sub _ _ (e _ _ q)).1, s.mono e⟩⟩
def seqSrc (st : Sto) (x : DV) : Option (List DV × (Sto → Prop)) := match titems x with | some xs => some (xs, fun _ => True) | none => lsrc st x
def qiSeq (te : TD) : TDi := fun ε st Q => te ε st fun x s1 => match seqSrc s1 x with | some (its, inv) => Q its inv s1 | none => False
theorem di_seq {tg e : Expr} {te : TD} (h : DE X e te) : DI X tg e (qiSeq te) := by
  obtain ⟨t1, p, a⟩ := h
  refine ⟨⟨_, pi_seq p, fun F σ H ε st Qd R' R E h kk => ?_⟩⟩
  refine a F σ H ε st _ _ R E h fun F1 v H1 x s1 t1 R1 r q => ?_
  split at q
  rotate_left
  · exact q.elim
  rename_i its inv es
  unfold seqSrc at es
  split at es
  · rename_i xs ex
    cases es
    obtain ⟨a, rfl, ⟨vs, hv⟩, hs⟩ := tsrc_at R1 r ex
    refine ⟨a, vs, rfl, .inr ⟨hv, kk F1 _ H1 its _ s1 t1 R1 (fun F H st e R iv => ?_) q⟩⟩
    obtain ⟨vs, hv, s⟩ := hs F H st e R
    refine ⟨fun i y hy => ?_, vs, hv, Nat.le_of_eq s.length⟩
    obtain ⟨u, hu, ru⟩ := s.get' hy
    refine ⟨⟨vs, u, hv, hu⟩, fun v H' ⟨e1, e2⟩ => ?_⟩
    subst e1
    have := e2 vs hv
    rw [hu] at this
    cases this
    exact ⟨F, Step.refl _ _ _, R, ru⟩
  · obtain ⟨a, rfl, ⟨vs, hv⟩, iv0, hs⟩ := lsrc_at R1 r es
    refine ⟨a, vs, rfl, .inl ⟨hv, kk F1 _ H1 its _ s1 t1 R1 (fun F H st e R iv => ?_) q⟩⟩
    obtain ⟨vs, hv, s⟩ := hs F H st e R iv
    refine ⟨fun i y hy => ?_, vs, hv, Nat.le_of_eq s.length⟩
    obtain ⟨u, hu, ru⟩ := s.get' hy
    refine ⟨⟨vs, u, hv, hu⟩, fun v H' ⟨e1, e2⟩ => ?_⟩
    subst e1
    have := e2 vs hv
    rw [hu] at this
    cases this
    exact ⟨F, Step.refl _ _ _, R, ru⟩
def rngD (lo : Int) (n : Nat) : List DV := (List.range n).map fun (i : Nat) => .d (.int (lo + (i : Int)))
theorem rng_src {F0 : Hp} (lo : Int) (n : Nat) : Src K F0 (Itr lo n) (rngD lo n) (fun _ => True) := fun F H st e R iv => by
  unfold rngD
  refine ⟨fun i x hx => ?_, by simp [Itr]⟩
  rw [List.getElem?_map] at hx
  by_cases hlt : i < n
  · rw [List.getElem?_range hlt] at hx
    cases hx
    refine ⟨hlt, fun v H' ⟨e1, e2⟩ => ?_⟩
    subst e1 e2
    exact ⟨F, Step.refl _ _ _, R, .d (.int _)⟩
  · rw [List.getElem?_eq_none (by rw [List.length_range]; omega)] at hx
    cases hx
def qiRng1 (ta : TDa) : TDi := fun ε st Q => ta ε st fun vs s1 => match vs with
  | [.d (.int j)] => -(2 ^ 62) ≤ j ∧ j < 2 ^ 62 ∧ Q (rngD 0 j.toNat) (fun _ => True) s1
  | _ => False
def qiRng2 (ta : TDa) : TDi := fun ε st Q => ta ε st fun vs s1 => match vs with
  | [.d (.int i), .d (.int j)] => (-(2 ^ 62) ≤ i ∧ i < 2 ^ 62 ∧ -(2 ^ 62) ≤ j ∧ j < 2 ^ 62) ∧ Q (rngD i (j - i).toNat) (fun _ => True) s1
  | _ => False
theorem di_rng1 {tg a : Expr} {ta : TDa} {p pos : Pos} (c : Cok P w K mg base X N sc fs k) (hg : glB sc "range" = true) (hm : mg "range" = none) (h : DA X [a] ta) (hs : starEach [a] X.env = [(false, eval a X.env)] := by rfl) : DI X tg (.Call (.Name "range" p) [a] [] pos) (qiRng1 ta) := by
  obtain ⟨t1, p1, a1⟩ := h
  refine ⟨⟨_, pi_range1 (gl_of c hg).1 (by rw [c.hmg]; exact hm) p1 hs, fun F σ H ε st Qd R' R E h kk => ?_⟩⟩
  refine a1 F σ H ε st _ _ R E h fun F1 vs H1 xs s1 t1 R1 r q => ?_
  split at q
  · cases r with
    | cons r rr =>
      cases rr
      cases rv_int r
      exact ⟨_, rfl, q.1, q.2.1, kk F1 _ H1 _ _ s1 t1 R1 (rng_src 0 _) q.2.2⟩
  · exact q.elim
theorem di_rng2 {tg a b : Expr} {ta : TDa} {p pos : Pos} (c : Cok P w K mg base X N sc fs k) (hg : glB sc "range" = true) (hm : mg "range" = none) (h : DA X [a, b] ta) (hs : starEach [a, b] X.env = [(false, eval a X.env), (false, eval b X.env)] := by rfl) (hs2 : starEach [b] X.env = [(false, eval b X.env)] := by rfl) : DI X tg (.Call (.Name "range" p) [a, b] [] pos) (qiRng2 ta) := by
  obtain ⟨t1, p1, a1⟩ := h
  refine ⟨⟨_, pi_range2 (gl_of c hg).1 (by rw [c.hmg]; exact hm) p1 hs hs2, fun F σ H ε st Qd R' R E h kk => ?_⟩⟩
  refine a1 F σ H ε st _ _ R E h fun F1 vs H1 xs s1 t1 R1 r q => ?_
  split at q
  · cases r with
    | cons r rr =>
      cases rr with
      | cons r2 rr =>
        cases rr
        cases rv_int r
        cases rv_int r2
        exact ⟨_, _, rfl, q.1, kk F1 _ H1 _ _ s1 t1 R1 (rng_src _ _) q.2⟩
  · exact q.elim
def zipD (xs ys : List DV) : List DV := List.zipWith (fun x y => mkT [x, y]) xs ys
theorem pair_src {F H : Hp} {st : Sto} {T : Addr} {u1 u2 : V} {x y : DV} (R : Rs K F H st) (hT : H T = none) (r1 : RV K F u1 x) (r2 : RV K F u2 y) :
    ∃ F', Step F H st F' (upd H T (.tup [u1, u2])) st ∧ Rs K F' (upd H T (.tup [u1, u2])) st ∧ RV K F' (.ref T) (mkT [x, y]) := by
  obtain ⟨R', t⟩ := R.frz (o := .tup [u1, u2]) hT
  exact ⟨_, t, R', mkT_rv upd_same (.cons (r1.mono t.ex) (.cons (r2.mono t.ex) .nil))⟩
def qiZip (ta : TDa) : TDi := fun ε st Q => ta ε st fun vs s1 => match vs with
  | [x, y] => match titems x, titems y with
    | some xs, some ys => Q (zipD xs ys) (fun _ => True) s1
    | _, _ => match lsrc s1 x, lsrc s1 y with
      | some (xs, inv1), some (ys, inv2) => Q (zipD xs ys) (fun s => inv1 s ∧ inv2 s) s1
      | _, _ => False
  | _ => False
theorem di_zip {e e2 : Expr} {ta : TDa} {p pos tpos : Pos} {elts : List Expr} {kk' : Nat} (c : Cok P w K mg base X N sc fs k) (hg : glB sc "zip" = true) (hm : mg "zip" = none) (h : DA X [e, e2] ta)
    (hs : starEach [e, e2] X.env = (false, eval e X.env) :: starEach [e2] X.env := by rfl) (hpl : (backTo pos (starEach [e2] X.env)).any (·.1) = false := by rfl) : DI X (.Tuple elts kk' tpos) (.Call (.Name "zip" p) [e, e2] [] pos) (qiZip ta) := by
  obtain ⟨t1, p1, a1⟩ := h
  refine ⟨⟨_, RZ.pi_zipA (gl_of c hg).1 (by rw [c.hmg]; exact hm) p1 hs hpl, fun F σ H ε st Qd R' R E h kk => ?_⟩⟩
  refine a1 F σ H ε st _ _ R E h fun F1 vs H1 xs s1 t1 R1 r q => ?_
  split at q
  · cases r with
    | cons r rr =>
      cases rr with
      | cons r2 rr =>
        cases rr
        split at q
        · rename_i xs ys ex ey
          obtain ⟨a, rfl, ⟨vs, hv⟩, h1⟩ := tsrc_at R1 r ex
          obtain ⟨b, rfl, ⟨ws, hw⟩, h2⟩ := tsrc_at R1 r2 ey
          refine ⟨a, b, vs, ws, rfl, .inr ⟨hv, hw, kk F1 _ H1 _ _ s1 t1 R1 (fun F H st e R iv => ?_) q⟩⟩
          obtain ⟨vs, hv, s⟩ := h1 F H st e R
          obtain ⟨ws, hw, s2⟩ := h2 F H st e R
          refine ⟨fun i z hz => ?_, vs, ws, hv, hw, ?_⟩
          · unfold zipD at hz
            rw [List.getElem?_zipWith] at hz
            cases hx : xs[i]? with
            | none => simp [hx] at hz
            | some x =>
              cases hy : ys[i]? with
              | none => simp [hx, hy] at hz
              | some y =>
                simp [hx, hy] at hz
                subst hz
                obtain ⟨u, hu, ru⟩ := s.get' hx
                obtain ⟨u2, hu2, ru2⟩ := s2.get' hy
                refine ⟨⟨vs, ws, u, u2, hv, hw, hu, hu2⟩, fun v H' ⟨T, x', y', e1, hT, e2, h3, h4⟩ => ?_⟩
                subst e1 e2
                have q1 := h3 vs hv
                have q2 := h4 ws hw
                rw [hu] at q1
                rw [hu2] at q2
                cases q1
                cases q2
                exact pair_src R hT ru ru2
          · have l1 := s.length
            have l2 := s2.length
            unfold zipD
            rw [List.length_zipWith]
            omega
        · split at q
          rotate_left
          · exact q.elim
          rename_i xs inv1 ys inv2 ex ey
          obtain ⟨a, rfl, ⟨vs, hv⟩, i1, h1⟩ := lsrc_at R1 r ex
          obtain ⟨b, rfl, ⟨ws, hw⟩, i2, h2⟩ := lsrc_at R1 r2 ey
          refine ⟨a, b, vs, ws, rfl, .inl ⟨hv, hw, kk F1 _ H1 _ _ s1 t1 R1 (fun F H st e R iv => ?_) q⟩⟩
          obtain ⟨vs, hv, s⟩ := h1 F H st e R iv.1
          obtain ⟨ws, hw, s2⟩ := h2 F H st e R iv.2
          refine ⟨fun i z hz => ?_, vs, ws, hv, hw, ?_⟩
          · unfold zipD at hz
            rw [List.getElem?_zipWith] at hz
            cases hx : xs[i]? with
            | none => simp [hx] at hz
            | some x =>
              cases hy : ys[i]? with
              | none => simp [hx, hy] at hz
              | some y =>
                simp [hx, hy] at hz
                subst hz
                obtain ⟨u, hu, ru⟩ := s.get' hx
                obtain ⟨u2, hu2, ru2⟩ := s2.get' hy
                refine ⟨⟨vs, ws, u, u2, hv, hw, hu, hu2⟩, fun v H' ⟨T, x', y', e1, hT, e2, h3, h4⟩ => ?_⟩
                subst e1 e2
                have q1 := h3 vs hv
                have q2 := h4 ws hw
                rw [hu] at q1
                rw [hu2] at q2
                cases q1
                cases q2
                exact pair_src R hT ru ru2
          · have l1 := s.length
            have l2 := s2.length
            unfold zipD
            rw [List.length_zipWith]
            omega
  · exact q.elim
def enumD (xs : List DV) : List DV := xs.mapIdx fun i x => mkT [.d (.int (i : Int)), x]
def qiEnum (ta : TDa) : TDi := fun ε st Q => ta ε st fun vs s1 => match vs with
  | [x] => (match seqSrc s1 x with | some (xs, inv) => Q (enumD xs) inv s1 | none => False)
  | _ => False
theorem enum_at {xs : List DV} {i : Nat} {z : DV} (h : (enumD xs)[i]? = some z) : ∃ x, xs[i]? = some x ∧ z = mkT [.d (.int (i : Int)), x] := by
  unfold enumD at h
  rw [List.getElem?_mapIdx] at h
  cases e : xs[i]? with
  | none => simp [e] at h
  | some x => simp [e] at h; exact ⟨x, rfl, h.symm⟩
theorem di_enum {e : Expr} {ta : TDa} {p pos tpos : Pos} {elts : List Expr} {kk' : Nat} (c : Cok P w K mg base X N sc fs k) (hg : glB sc "enumerate" = true) (hm : mg "enumerate" = none) (h : DA X [e] ta) (hs : starEach [e] X.env = [(false, eval e X.env)] := by rfl) : DI X (.Tuple elts kk' tpos) (.Call (.Name "enumerate" p) [e] [] pos) (qiEnum ta) := by
  obtain ⟨t1, p1, a1⟩ := h
  refine ⟨⟨_, pi_enumA (gl_of c hg).1 (by rw [c.hmg]; exact hm) p1 hs, fun F σ H ε st Qd R' R E h kk => ?_⟩⟩
  refine a1 F σ H ε st _ _ R E h fun F1 vs H1 xs s1 t1 R1 r q => ?_
  split at q
  · cases r with
    | cons r rr =>
      cases rr
      split at q
      rotate_left
      · exact q.elim
      rename_i xs inv es
      unfold seqSrc at es
      split at es
      · rename_i ys ex
        cases es
        obtain ⟨a, rfl, ⟨vs, hv⟩, h1⟩ := tsrc_at R1 r ex
        refine ⟨a, vs, rfl, .inr ⟨hv, kk F1 _ H1 _ _ s1 t1 R1 (fun F H st e R iv => ?_) q⟩⟩
        obtain ⟨vs, hv, s⟩ := h1 F H st e R
        refine ⟨fun i z hz => ?_, vs, hv, by unfold enumD; rw [List.length_mapIdx]; exact Nat.le_of_eq s.length⟩
        obtain ⟨x, hx, rfl⟩ := enum_at hz
        obtain ⟨u, hu, ru⟩ := s.get' hx
        refine ⟨⟨vs, u, hv, hu⟩, fun v H' ⟨T, x', e1, hT, e2, h3⟩ => ?_⟩
        subst e1 e2
        have q1 := h3 vs hv
        rw [hu] at q1
        cases q1
        exact pair_src R hT (.d (.int _)) ru
      · obtain ⟨a, rfl, ⟨vs, hv⟩, i1, h1⟩ := lsrc_at R1 r es
        refine ⟨a, vs, rfl, .inl ⟨hv, kk F1 _ H1 _ _ s1 t1 R1 (fun F H st e R iv => ?_) q⟩⟩
        obtain ⟨vs, hv, s⟩ := h1 F H st e R iv
        refine ⟨fun i z hz => ?_, vs, hv, by unfold enumD; rw [List.length_mapIdx]; exact Nat.le_of_eq s.length⟩
        obtain ⟨x, hx, rfl⟩ := enum_at hz
        obtain ⟨u, hu, ru⟩ := s.get' hx
        refine ⟨⟨vs, u, hv, hu⟩, fun v H' ⟨T, x', e1, hT, e2, h3⟩ => ?_⟩
        subst e1 e2
        have q1 := h3 vs hv
        rw [hu] at q1
        cases q1
        exact pair_src R hT (.d (.int _)) ru
  · exact q.elim

/-! ### comprehensions: the rules -/
/-- the reading that a data reading gives, whatever the context is -/
def lift {α β : Type} (rel : Hp → α → β → Prop) (K : PySem.W.Frag) (t : Env → Sto → (β → Sto → Prop) → Prop) : L2.St → Hp → (α → Hp → Prop) → Prop := fun σ H Q => ∃ F ε st Qd, Rs K F H st ∧ RE K F σ ε ∧ t ε st Qd ∧ Kg rel K F H st Qd Q
theorem lift_sg {α β : Type} {rel : Hp → α → β → Prop} {t : Env → Sto → (β → Sto → Prop) → Prop} : Sg rel K (lift rel K t) t := fun F σ H ε st Qd Q R E h kk => ⟨F, ε, st, Qd, R, E, h, kk⟩
theorem DE.lift {e : Expr} {t : TD} (h : DE X e t) : PE X e (DL.lift (RV X.K) X.K t) := by
  obtain ⟨te, p, a⟩ := h
  exact ⟨fun pins s σ H Q I ⟨F, ε, st, Qd, R, E, h, kk⟩ => p.run pins s σ H Q I (a F σ H ε st Qd Q R E h kk)⟩
theorem DTs.lift {e : List Expr} {t : TDt} (h : DTs X e t) : PTs X e (DL.lift relT X.K t) := by
  obtain ⟨te, p, a⟩ := h
  exact ⟨fun pins s σ H Q I ⟨F, ε, st, Qd, R, E, h, kk⟩ => p.run pins s σ H Q I (a F σ H ε st Qd Q R E h kk)⟩
def liftG (K : PySem.W.Frag) (ws : List Nat) (t : TDg) : TG := fun v σ H Q => ∃ F ε st x Qd, Rs K F H st ∧ RE K F σ ε ∧ RV K F v x ∧ t x ε st Qd ∧
  ∀ F' σ' H' ε' st', Step F H st F' H' st' → Rs K F' H' st' → RE K F' σ' ε' → (∀ vs : List Nat, (∀ i ∈ ws, i ∈ vs) → wipe σ' vs = wipe σ vs) → Qd ε' st' → Q σ' H'
theorem DG.lift {e : Expr} {ws : List Nat} {t : TDg} (h : DG X e ws t) : PG X e (liftG X.K ws t) := by
  obtain ⟨te, p, a⟩ := h
  exact ⟨fun pins s σ H v u Q I r ⟨F, ε, st, x, Qd, R, E, rv, h, kk⟩ => p.run pins s σ H v u Q I r (a F σ H ε st v x Qd Q R E rv h kk)⟩
def liftI (K : PySem.W.Frag) (t : TDi) : TI := fun σ H R' => ∃ F ε st Qd, Rs K F H st ∧ RE K F σ ε ∧ t ε st Qd ∧ ∀ F' J H' items inv st', Step F H st F' H' st' → Rs K F' H' st' → Src K F' J items inv → Qd items inv st' → R' J H'
theorem DI.lift {tg e : Expr} {t : TDi} (h : DI X tg e t) : PI X tg e (liftI X.K t) := by
  obtain ⟨te, p, a⟩ := h
  exact ⟨fun pins s σ H R' I ⟨F, ε, st, Qd, R, E, h, kk⟩ => p.run pins s σ H R' I (a F σ H ε st Qd R' R E h kk)⟩
theorem de_lc {elt tg iter : Expr} {ifs : List Expr} {scope : Scope} {pos : Pos} {ti : TDi} {g : TDg} {tt : TDt} {te : TD} {ws : List Nat} (m : Bool) (own : List (Str × Nat)) (c : Cok P w K mg base X N sc fs k) (hb : blkC N sc scope own = true) (hw : ∀ i ∈ ws, i ∈ own.map (·.2)) (hi : DI X tg iter ti)
    (hg : ∀ X', Cok P w K mg base X' N (relS scope sc) scope k → DG X' tg ws g) (ht : ∀ X', Cok P w K mg base X' N (relS scope sc) scope k → DTs X' ifs tt) (he : ∀ X', Cok P w K mg base X' N (relS scope sc) scope k → DE X' elt te)
    (hs : ∀ x, foldedSetIterable iter X.env x = pure x := by intro _; rfl) : DE X (.ListComp elt [⟨tg, iter, ifs, 0⟩] scope pos) (qLc m ti g tt te (own.map (·.2))) := by
  have ok : BlkOk X.N X.env.scope scope own := by
    rw [c.hN, c.hs]
    exact blkOk_by hb
  have cb := fun s H C cl fp => c.blk (scope := scope) ok.kind s H C cl fp
  obtain ⟨wi, p0, a0⟩ := hi
  refine ⟨⟨_, pe_lc (g := liftG X.K ws g) (tt := DL.lift relT X.K tt) (te := DL.lift (RV X.K) X.K te) c.calm (by rw [c.hN]; exact c.nd) p0 ok (fun s H C cl fp => (hg _ (cb s H C cl fp)).lift) (fun s H C cl fp => (ht _ (cb s H C cl fp)).lift) (fun s H C cl fp => (he _ (cb s H C cl fp)).lift) hs,
    comp_sim hw a0 (fun F σ H ε st v x Qd Q R E r q kk => ⟨F, ε, st, x, Qd, R, E, r, q, kk⟩) lift_sg lift_sg⟩⟩
/-- name = [..] on one line -/
def setLcB (N : List Str) (sc : Scope) (i : Nat) (y : Str) : Bool := decide (N[i]? = some y) && decide (sc.names.lookup y = some .local)
theorem ds_setLc {elt tg iter : Expr} {ifs : List Expr} {scope : Scope} {i : Nat} {y : Str} {py pos spos : Pos} {ti : TDi} {g : TDg} {tt : TDt} {te : TD} {ws : List Nat} (m : Bool) (own : List (Str × Nat)) (c : Cok P w K mg base X N sc fs k) (hy : setLcB N sc i y = true)
    (hsw : swapsWith (.ListComp elt [⟨tg, iter, ifs, 0⟩] scope pos) (some (.Name y py)) spos.line (envS sc) = pure true) (hb : blkC N sc scope own = true) (hw : ∀ i ∈ ws, i ∈ own.map (·.2)) (hi : DI X tg iter ti)
    (hg : ∀ X', Cok P w K mg base X' N (relS scope sc) scope k → DG X' tg ws g) (ht : ∀ X', Cok P w K mg base X' N (relS scope sc) scope k → DTs X' ifs tt) (he : ∀ X', Cok P w K mg base X' N (relS scope sc) scope k → DE X' elt te)
    (hs : ∀ x, foldedSetIterable iter X.env x = pure x := by intro _; rfl) : DS X (.Assign [.Name y py] (.ListComp elt [⟨tg, iter, ifs, 0⟩] scope pos) spos) (qAsg (qLc m ti g tt te (own.map (·.2))) (qgN i)) := by
  unfold setLcB at hy
  simp only [Bool.and_eq_true, decide_eq_true_eq] at hy
  have ok : BlkOk X.N X.env.scope scope own := by
    rw [c.hN, c.hs]
    exact blkOk_by hb
  have cb := fun s H C cl fp => c.blk (scope := scope) ok.kind s H C cl fp
  obtain ⟨wi, p0, a0⟩ := hi
  refine ⟨⟨_, ps_setLc (i := i) (g := liftG X.K ws g) (tt := DL.lift relT X.K tt) (te := DL.lift (RV X.K) X.K te) c.calm (by rw [c.hN]; exact c.nd) (by rw [c.hN]; exact hy.1) (by rw [c.hs]; exact hy.2) ((swaps_S c _ _ _).trans hsw) p0 ok (fun s H C cl fp => (hg _ (cb s H C cl fp)).lift) (fun s H C cl fp => (ht _ (cb s H C cl fp)).lift) (fun s H C cl fp => (he _ (cb s H C cl fp)).lift) hs,
    fun F σ H ε st Dd D R E h kk => ?_⟩⟩
  refine comp_sim (K := X.K) hw a0 (fun F σ H ε st v x Qd Q R E r q kk => ⟨F, ε, st, x, Qd, R, E, r, q, kk⟩) lift_sg lift_sg F σ H ε st _ _ R E h fun F1 v H1 x st1 s1 R1 r q => ?_
  exact kk.nx F1 _ H1 _ st1 s1 R1 ((E.mono s1.ex).set r i) q

/-! ### calls of the text's defs -/
abbrev SpD := List DV → Sto → (DV → Sto → Prop) → Prop
def hsp (K : PySem.W.Frag) (sp : SpD) : Sp := fun vs H Q _ => ∃ F st xs Qd, Rs K F H st ∧ RVs K F vs xs ∧ sp xs st Qd ∧ Kg (RV K) K F H st Qd Q
def qCall (sp : SpD) (ta : TDa) : TD := fun ε st Q => ta ε st fun xs s1 => sp xs s1 Q
theorem de_call {x : Str} {e : Expr} {es : List Expr} {ta : TDa} {p pos : Pos} {f : Addr} {fd : FuncData} {ps : List Str} {sp : SpD} {j : Nat} (c : Cok P w K mg base X N sc fs k) (hg : glB sc x = true) (hm : mg x = some (.ref f)) (hk : PySem.W.keepIn K (.ref f) = true) (G : FnOk P w K mg base CX0 j f fd ps (hsp K sp)) (hj : j ≤ k) (b : Binds K fd ps [])
    (ha : DA X (e :: es) ta) (he : starEach (e :: es) X.env = (false, eval e X.env) :: starEach es X.env := by rfl) (hpl : (backTo pos (starEach es X.env)).any (·.1) = false := by rfl) : DE X (.Call (.Name x p) (e :: es) [] pos) (qCall sp ta) := by
  obtain ⟨t1, p1, a1⟩ := ha
  obtain ⟨hX1, hX2, hX3, hX4, hX5, _⟩ := id c
  have g := gl_of c hg
  have G' : FnOk X.prog X.w X.K X.mg X.base CX0 k f fd ps (hsp X.K sp) := by
    rw [hX1, hX2, hX3, hX4, hX5]
    exact G.mono hj
  refine ⟨⟨_, pe_call G' c.room g.1 (by rw [hX4]; exact hm) (by rw [hX3]; exact hk) (by rw [hX3]; exact b) .nil pass0 p1 g.2.2 he hpl, fun F σ H ε st Qd Q R E h kk => ?_⟩⟩
  refine a1 F σ H ε st _ _ R E h fun F1 vs H1 xs s1 t1 R1 r q => ?_
  show hsp X.K sp (vs ++ []) H1 Q E0
  rw [List.append_nil]
  exact ⟨F1, s1, xs, Qd, R1, r, q, kk.step t1⟩
theorem de_call0 {x : Str} {p pos : Pos} {f : Addr} {fd : FuncData} {ps : List Str} {sp : SpD} {j : Nat} (c : Cok P w K mg base X N sc fs k) (hg : glB sc x = true) (hm : mg x = some (.ref f)) (hk : PySem.W.keepIn K (.ref f) = true) (G : FnOk P w K mg base CX0 j f fd ps (hsp K sp)) (hj : j ≤ k) (b : Binds K fd ps []) :
    DE X (.Call (.Name x p) [] [] pos) (qCall sp qNil) := by
  obtain ⟨hX1, hX2, hX3, hX4, hX5, _⟩ := id c
  have g := gl_of c hg
  have G' : FnOk X.prog X.w X.K X.mg X.base CX0 k f fd ps (hsp X.K sp) := by
    rw [hX1, hX2, hX3, hX4, hX5]
    exact G.mono hj
  refine ⟨⟨_, pe_call0 G' c.room g.1 (by rw [hX4]; exact hm) (by rw [hX3]; exact hk) (by rw [hX3]; exact b) .nil pass0 g.2.2, fun F σ H ε st Qd Q R E h kk => ?_⟩⟩
  exact ⟨F, st, [], Qd, R, .nil, h, kk⟩
/-- what is given out, all else of the store forgotten -/
def Fg (Q : DV → Sto → Prop) : DV → Sto → Prop := fun x st => ∃ st', Le st' st ∧ Q x st'
def startD (n : Nat) (xs : List DV) : Env := xs.map some ++ List.replicate (n - xs.length) none
theorem start_re {F : Hp} {vs : List V} {xs : List DV} (r : RVs K F vs xs) (N : List Str) : RE K F (L2.start N vs) (startD N.length xs) := by
  have hl := r.length
  refine ⟨by unfold L2.start startD; simp only [List.length_append, List.length_map, List.length_replicate]; omega, fun i x h => ?_⟩
  unfold startD at h
  unfold L2.start
  by_cases hi : i < xs.length
  · rw [List.getElem?_append_left (by rw [List.length_map]; exact hi), List.getElem?_map] at h
    rw [List.getElem?_append_left (by rw [List.length_map]; omega), List.getElem?_map]
    cases e : xs[i]? with
    | none => rw [e] at h; cases h
    | some y =>
      rw [e] at h
      cases h
      obtain ⟨v, hv, rv⟩ := r.get' e
      exact ⟨v, by rw [hv]; rfl, rv⟩
  · rw [List.getElem?_append_right (by rw [List.length_map]; omega), List.getElem?_replicate] at h
    split at h <;> cases h
/-- THE RULE of a def: its body's derivation, and its reading -/
theorem fn_ok {x qual : Str} {s : Stmt} {f : Addr} {fd : FuncData} {ps : List Str} {sp : SpD} {t : TDs} (Fu : Fun K x qual s f fd) (S : FnScope N ps (defScope s)) (len : ∀ xs st Q, sp xs st Q → xs.length = ps.length)
    (hbody : ∀ X, Cok P w K mg base X N (defScope s) (defScope s) k → DSs X (defBody s) t)
    (hsem : ∀ xs st Q, sp xs st Q → t { nx := fun _ st' => Fg Q (.d .none) st', rt := Fg Q } (startD N.length xs) st) : FnOk P w K mg base CX0 (k + 1) f fd ps (hsp K sp) := by
  refine Fu.ok S (fun vs H Q E ⟨F, st, xs, Qd, R, r, h, kk⟩ => r.length.trans (len xs st Qd h)) (fun cdv A outer s' H vs Q E hr ⟨F, st, xs, Qd, R, r, h, kk⟩ => ?_)
  have c : Cok P w K mg base (cxOf CX0 P w K mg base N qual (defScope s) f cdv A outer s' H E).nox N (defScope s) (defScope s) k :=
    ⟨rfl, rfl, rfl, rfl, rfl, rfl, S.nd, S.kind, rfl, rfl, fun _ _ => rfl, hr, fun _ _ h => h.elim⟩
  obtain ⟨ts, p, a⟩ := hbody _ c
  have fin : ∀ F' v H' x' st', Step F H st F' H' st' → Rs K F' H' st' → RV K F' v x' → Fg Qd x' st' → Q v H' := fun F' v H' x' st' t R' r' ⟨st2, le, q⟩ =>
    kk F' v H' x' st2 ⟨t.ex, fun b o e n => ⟨(t.pres b o e n).1, by
      cases e2 : st2 b with
      | none => rfl
      | some m => have := le b m e2; rw [(t.pres b o e n).2] at this; cases this⟩, t.fnew⟩ (R'.le le) r' q
  refine ⟨ts, p, a F _ H (startD N.length xs) st _ _ R (start_re r N) (hsem xs st Qd h) ⟨fun F' σ' H' ε' st' t R' E' q => fin F' .non H' (.d .none) st' t R' (.d .non) q, fin, fun _ _ _ _ _ _ _ _ z => z.elim, fun _ _ _ _ _ _ _ _ z => z.elim⟩⟩
/-- a weaker promise -/
theorem fn_imp {f : Addr} {fd : FuncData} {ps : List Str} {sp sp' : SpD} (G : FnOk P w K mg base CX0 k f fd ps (hsp K sp)) (h : ∀ xs st Q, sp' xs st Q → sp xs st Q) : FnOk P w K mg base CX0 k f fd ps (hsp K sp') :=
  G.imp fun vs H Q E ⟨F, st, xs, Qd, R, r, q, kk⟩ => ⟨F, st, xs, Qd, R, r, h _ _ _ q, kk⟩
end
end DL
end

section
set_option Elab.async false
set_option linter.all false
set_option maxRecDepth 100000
set_option maxHeartbeats 4000000
namespace DL
open PySem L2 PyProof.Rows
section
variable {P : Program} {w : World} {K : PySem.W.Frag} {mg : Str → Option Value} {base : Heap} {X : Cx} {N : List Str} {sc fs : Scope} {k : Nat}
theorem Cok.hu (c : Cok P w K mg base X N sc fs k) : X.A.units + 1 < cLine := hu_of c.room
theorem Cok.hu64 (c : Cok P w K mg base X N sc fs k) : X.A.units + 64 < cLine := c.room.units
theorem Cok.hu0 (c : Cok P w K mg base X N sc fs k) : X.A.units < cLine := c.room.units0
def qCB (r : RLD) (ta : TDa) : TD := fun ε st Q => ta ε st fun xs s1 => r xs s1 Q
theorem de_cb {x : Str} {e : Expr} {es : List Expr} {ta : TDa} {p pos : Pos} {id : String} {r : RLD} (c : Cok P w K mg base X N sc fs k) (hg : glB sc x = true) (hm : mg x = none) (hv : bootBuiltins x = some (.builtin id)) (hc : ∃ r', CallR X (.builtin id) r' ∧ SL X.K r' r)
    (ha : DA X (e :: es) ta) (he : starEach (e :: es) X.env = (false, eval e X.env) :: starEach es X.env := by rfl) (hpl : (backTo pos (starEach es X.env)).any (·.1) = false := by rfl) : DE X (.Call (.Name x p) (e :: es) [] pos) (qCB r ta) := by
  obtain ⟨t1, p1, a1⟩ := ha
  obtain ⟨r', h1, h2⟩ := hc
  have g := gl_of c hg
  refine ⟨⟨_, pe_callB h1 g.1 (by rw [c.hmg]; exact hm) hv p1 g.2.1 g.2.2 he hpl, fun F σ H ε st Qd Q R E h kk => a1.go R E h kk fun F1 H1 s1 v x R1 E1 rv q kk => h2 F1 H1 s1 v x _ _ R1 rv q kk⟩⟩
theorem de_ct {x : Str} {e : Expr} {es : List Expr} {ta : TDa} {p pos : Pos} {T : String} {r : RLD} (c : Cok P w K mg base X N sc fs k) (hg : glB sc x = true) (hm : mg x = none) (hv : bootBuiltins x = some (.type T)) (hc : ∃ r', CallR X (.type T) r' ∧ SL X.K r' r)
    (ha : DA X (e :: es) ta) (he : starEach (e :: es) X.env = (false, eval e X.env) :: starEach es X.env := by rfl) (hpl : (backTo pos (starEach es X.env)).any (·.1) = false := by rfl) : DE X (.Call (.Name x p) (e :: es) [] pos) (qCB r ta) := by
  obtain ⟨t1, p1, a1⟩ := ha
  obtain ⟨r', h1, h2⟩ := hc
  have g := gl_of c hg
  refine ⟨⟨_, pe_callTy h1 g.1 (by rw [c.hmg]; exact hm) hv p1 g.2.1 g.2.2 he hpl, fun F σ H ε st Qd Q R E h kk => a1.go R E h kk fun F1 H1 s1 v x R1 E1 rv q kk => h2 F1 H1 s1 v x _ _ R1 rv q kk⟩⟩
theorem CallR.or2 {f : Value} {r r' : List V → Hp → VK → Prop} (h : CallR X f r) (h' : CallR X f r') : CallR X f (fun x H Q => r x H Q ∨ r' x H Q) := by
  intro pins s σ H xs us Q I rx q
  rcases q with q | q
  · exact h pins s σ H xs us Q I rx q
  · exact h' pins s σ H xs us Q I rx q
theorem rvs1 {F : Hp} {vs : List V} {x : DV} (r : RVs K F vs [x]) : ∃ v, vs = [v] ∧ RV K F v x := by
  cases r with
  | cons a b => cases b; exact ⟨_, rfl, a⟩
theorem rvs2 {F : Hp} {vs : List V} {x y : DV} (r : RVs K F vs [x, y]) : ∃ v w, vs = [v, w] ∧ RV K F v x ∧ RV K F w y := by
  cases r with
  | cons a b => cases b with | cons b c => cases c; exact ⟨_, _, rfl, a, b⟩
/-- len -/
def qLen : RLD := fun xs st Q => match xs with
  | [.d (.str z)] => z.length ≤ sizeLine ∧ Q (.d (.int (z.length : Int))) st
  | [x] => (match sitems st x with
    | some l => Q (.d (.int (l.length : Int))) st
    | none => match x with
      | .r a => (match st a with
        | some (.dK kvs) => Q (.d (.int (kvs.length : Int))) st
        | _ => False)
      | _ => False)
  | _ => False
theorem c_len : ∃ r', CallR X (.builtin "len") r' ∧ SL X.K r' qLen := by
  refine ⟨_, CallR.or2 (CallR.or2 call_len_str call_len_seq) call_lenD, ?_⟩
  intro F H st vs xs Qd Q R rv h kk
  unfold qLen at h
  split at h
  · obtain ⟨v, rfl, r⟩ := rvs1 rv
    cases rv_str r
    exact .inl (.inl ⟨_, rfl, h.1, kk.at R (.d (.int _)) h.2⟩)
  · obtain ⟨v, rfl, r⟩ := rvs1 rv
    split at h
    · rename_i l el
      obtain ⟨p, ys, rfl, hq, s⟩ := sitems_rv R r el
      refine .inl (.inr ⟨p, ys, rfl, hq, ?_⟩)
      rw [s.length]
      exact kk.at R (.d (.int _)) h
    · split at h
      · rename_i a hx
        cases r
        split at h
        · rename_i kvs e
          obtain ⟨ws, q, s⟩ := R.ok _ _ e
          have hl : ws.length = kvs.length := Paired.length s
          refine .inr ⟨_, ws, rfl, q, ?_⟩
          rw [hl]
          exact kk.at R (.d (.int _)) h
        · exact h.elim
      · exact h.elim
  · exact h.elim
/-- tuple(x), list(x) -/
def qTupleC : RLD := fun xs st Q => match xs with
  | [x] => (match sitems st x with | some l => Q (mkT l) st | none => False)
  | _ => False
theorem c_tuple : ∃ r', CallR X (.type "tuple") r' ∧ SL X.K r' qTupleC := by
  refine ⟨_, call_tuple_of, ?_⟩
  intro F H st vs xs Qd Q R rv h kk
  unfold qTupleC at h
  split at h
  · obtain ⟨v, rfl, r⟩ := rvs1 rv
    split at h
    · rename_i x l el
      unfold sitems at el
      split at el
      · rename_i l' et
        cases el
        obtain ⟨p, ys, rfl, hq, s⟩ := titems_rv r et
        exact ⟨p, ys, rfl, .inr ⟨SqT.of (R.sub _ _ hq).1, kk.at R (mkT_rv hq s) h⟩⟩
      · obtain ⟨p, ys, rfl, hq, s⟩ := litems_rv R r el
        exact ⟨p, ys, rfl, .inl ⟨hq, fun l hl => new_tup R s hl h kk⟩⟩
    · exact h.elim
  · exact h.elim
def qListC (m : Bool) : RLD := fun xs st Q => match xs with
  | [x] => (match sitems st x with | some l => newL m l st Q | none => False)
  | _ => False
theorem c_list (m : Bool) : ∃ r', CallR X (.type "list") r' ∧ SL X.K r' (qListC m) := by
  refine ⟨_, call_list_of, ?_⟩
  intro F H st vs xs Qd Q R rv h kk
  unfold qListC at h
  split at h
  · obtain ⟨v, rfl, r⟩ := rvs1 rv
    split at h
    · rename_i x l el
      obtain ⟨p, ys, rfl, hq, s⟩ := sitems_rv R r el
      exact ⟨p, ys, rfl, hq, fun l hl => new_lst R s hl h kk⟩
    · exact h.elim
  · exact h.elim
/-- max, min of two -/
def qMax2 : RLD := fun xs st Q => match xs with
  | [.d (.int i), .d (.int j)] => Q (.d (.int (if j > i then j else i))) st
  | _ => False
def qMin2 : RLD := fun xs st Q => match xs with
  | [.d (.int i), .d (.int j)] => Q (.d (.int (if j < i then j else i))) st
  | _ => False
theorem c_max2 (hc : X.calm = true) : ∃ r', CallR X (.builtin "max") r' ∧ SL X.K r' qMax2 := by
  refine ⟨_, call_max2 hc, ?_⟩
  intro F H st vs xs Qd Q R rv h kk
  unfold qMax2 at h
  split at h
  · obtain ⟨v, w', rfl, r, r2⟩ := rvs2 rv
    cases rv_int r; cases rv_int r2
    exact ⟨_, _, rfl, kk.at R (.d (.int _)) h⟩
  · exact h.elim
theorem c_min2 (hc : X.calm = true) : ∃ r', CallR X (.builtin "min") r' ∧ SL X.K r' qMin2 := by
  refine ⟨_, call_min2 hc, ?_⟩
  intro F H st vs xs Qd Q R rv h kk
  unfold qMin2 at h
  split at h
  · obtain ⟨v, w', rfl, r, r2⟩ := rvs2 rv
    cases rv_int r; cases rv_int r2
    exact ⟨_, _, rfl, kk.at R (.d (.int _)) h⟩
  · exact h.elim
/-- int(n) -/
def qIntC : RLD := fun xs st Q => match xs with
  | [.d (.int i)] => Q (.d (.int i)) st
  | [.d (.bool b)] => Q (.d (.int (if b then 1 else 0))) st
  | _ => False
theorem c_int : ∃ r', CallR X (.type "int") r' ∧ SL X.K r' qIntC := by
  refine ⟨_, call_int1, ?_⟩
  intro F H st vs xs Qd Q R rv h kk
  unfold qIntC at h
  split at h
  · obtain ⟨v, rfl, r⟩ := rvs1 rv
    cases rv_int r
    exact .inl ⟨_, rfl, kk.at R (.d (.int _)) h⟩
  · obtain ⟨v, rfl, r⟩ := rvs1 rv
    cases rv_bool r
    exact .inr ⟨_, rfl, kk.at R (.d (.int _)) h⟩
  · exact h.elim
/-- sum of ints -/
def rSumT (K : PySem.W.Frag) : List V → Hp → VK → Prop := fun vs H Q => ∃ (a : Addr) (ns : List Int), vs = [V.ref a] ∧ SqT K H a (ns.map V.int) ∧ Q (.int ns.sum) H
theorem cr_sumT (hc : X.calm = true) : CallR X (.builtin "sum") (rSumT X.K) := by
  intro pins s σ H vs us Q I r h
  obtain ⟨a, ns, rfl, hs, q⟩ := h
  obtain ⟨its, rv, hl, _⟩ := I.tuple hs
  rw [Vals.ref1 r]
  have hi := rv.ints
  obtain ⟨xs, e⟩ := hi.allInts.items
  have hn : numsOf (intItems xs).toList = ns := by rw [← e]; exact hi.numsOf
  rw [nums_intItems] at hn
  rw [e] at hl
  refine PySem.W.ktm_sumG (I.ok.hd hc) (show s.heap.IsTuple a (intItems xs) from hl) fun h' tk t' hk => ?_
  rw [preSum_eq, List.take_of_length_le (by simp), hn]
  exact ⟨.int _, H, I.kept hk, ⟨_, rfl⟩, q⟩
def qSum : RLD := fun xs st Q => match xs with
  | [x] => (match sitems st x with | some l => (match dints l with | some ns => Q (.d (.int ns.sum)) st | none => False) | none => False)
  | _ => False
theorem c_sum (hc : X.calm = true) : ∃ r', CallR X (.builtin "sum") r' ∧ SL X.K r' qSum := by
  refine ⟨_, CallR.or2 (cr_sum hc) (cr_sumT hc), ?_⟩
  intro F H st vs xs Qd Q R rv h kk
  unfold qSum at h
  split at h
  · obtain ⟨v, rfl, r⟩ := rvs1 rv
    split at h
    · rename_i x l el
      split at h
      rotate_left
      · exact h.elim
      rename_i ns en
      have q := h
      obtain ⟨p, ys, rfl, hq, s⟩ := sitems_rv R r el
      obtain ⟨rfl, _⟩ := dints_rvs s en
      rcases hq with hq | hq
      · exact .inl ⟨p, ns, rfl, hq, kk.at R (.d (.int _)) q⟩
      · exact .inr ⟨p, ns, rfl, hq, kk.at R (.d (.int _)) q⟩
    · exact h.elim
  · exact h.elim
/-- any, all of truth values -/
def dbools : List DV → Option (List Bool)
  | [] => some []
  | .d (.bool i) :: r => (dbools r).map (i :: ·)
  | _ :: _ => none
theorem dbools_rvs : ∀ {F : Hp} {vs : List V} {xs : List DV} {ns : List Bool}, RVs K F vs xs → dbools xs = some ns → vs = ns.map V.bl
  | _, _, [], ns, r, h => by cases h; cases r; rfl
  | F, v :: vs, .d (.bool i) :: xs, ns, .cons r q, h => by
    cases e : dbools xs with
    | none => simp [dbools, e] at h
    | some l =>
      simp [dbools, e] at h
      subst h
      cases rv_bool r
      rw [dbools_rvs q e]
      rfl
theorem dbools_map : ∀ l : List Bool, dbools (l.map fun i => .d (.bool i)) = some l
  | [] => rfl
  | i :: r => by simp [dbools, dbools_map r]
def qAny : RLD := fun xs st Q => match xs with
  | [x] => (match litems st x with | some l => (match dbools l with | some ns => Q (.d (.bool (ns.any id))) st | none => False) | none => False)
  | _ => False
def qAll : RLD := fun xs st Q => match xs with
  | [x] => (match litems st x with | some l => (match dbools l with | some ns => Q (.d (.bool (ns.all id))) st | none => False) | none => False)
  | _ => False
theorem c_any (hc : X.calm = true) : ∃ r', CallR X (.builtin "any") r' ∧ SL X.K r' qAny := by
  refine ⟨_, cr_any hc, ?_⟩
  intro F H st vs xs Qd Q R rv h kk
  unfold qAny at h
  split at h
  · obtain ⟨v, rfl, r⟩ := rvs1 rv
    split at h
    · rename_i x l el
      split at h
      rotate_left
      · exact h.elim
      rename_i ns en
      have q := h
      obtain ⟨p, ys, rfl, hq, s⟩ := litems_rv R r el
      cases dbools_rvs s en
      exact ⟨p, ns, rfl, hq, kk.at R (.d (.bl _)) q⟩
    · exact h.elim
  · exact h.elim
theorem c_all (hc : X.calm = true) : ∃ r', CallR X (.builtin "all") r' ∧ SL X.K r' qAll := by
  refine ⟨_, cr_all hc, ?_⟩
  intro F H st vs xs Qd Q R rv h kk
  unfold qAll at h
  split at h
  · obtain ⟨v, rfl, r⟩ := rvs1 rv
    split at h
    · rename_i x l el
      split at h
      rotate_left
      · exact h.elim
      rename_i ns en
      have q := h
      obtain ⟨p, ys, rfl, hq, s⟩ := litems_rv R r el
      cases dbools_rvs s en
      exact ⟨p, ns, rfl, hq, kk.at R (.d (.bl _)) q⟩
    · exact h.elim
  · exact h.elim

/-! ### isinstance(x, T), T a built-in type -/
def tyName (st : Sto) : DV → Option String
  | .d .none => some "NoneType"
  | .d (.bool _) => some "bool"
  | .d (.int _) => some "int"
  | .d (.str _) => some "str"
  | .d (.list _) => some "list"
  | .d (.tuple _) => some "tuple"
  | .d (.dict _) => none
  | .t _ => some "tuple"
  | .r a => match st a with | some (.lst _) => some "list" | some (.dK _) => some "dict" | some (.dT _) => some "dict" | _ => none
theorem tyx_of {F H : Hp} {st : Sto} {v : V} {x : DV} {T : String} (R : Rs K F H st) (r : RV K F v x) (h : tyName st x = some T) : TyX K H v (.type T) := by
  cases x with
  | d z =>
    cases r with
    | d r =>
      cases r with
      | non => cases h; exact .base .non
      | bl b => cases h; exact .base (.bl b)
      | int i => cases h; exact .base (.int i)
      | str z => cases h; exact .base (.str z)
      | lst q s =>
        cases h
        rcases SqL.mono (Rs.ex F H st R) q with (q | ⟨o, q⟩) | q
        · exact .base (.lst q)
        · exact .base (.frz q)
        · obtain ⟨o, its, n, q1, q2, _⟩ := q
          exact .kList q1 q2
      | tup q s => cases h; exact .base (.tup (R.sub _ _ q).1)
  | t ys =>
    cases h
    cases r with
    | t q s => exact .base (.tup (R.sub _ _ q).1)
  | r a =>
    cases r
    unfold tyName at h
    simp only at h
    cases e : st a with
    | none => rw [e] at h; cases h
    | some m =>
      rw [e] at h
      cases m with
      | lst ys => cases h; obtain ⟨vs, q, s⟩ := R.ok a _ e; exact .base (.lst q)
      | dK ys => cases h; obtain ⟨vs, q, s⟩ := R.ok a _ e; exact .base (.dK q)
      | dT ys => cases h; obtain ⟨vs, q, s⟩ := R.ok a _ e; exact .base (.dT q)
      | ins _ _ => cases h
def qIsi (T : String) (ta : TD) : TD := fun ε st Q => ta ε st fun x s1 => match tyName s1 x with
  | some T' => (match kitB T' T with | some b => Q (.d (.bool b)) s1 | none => False)
  | none => False
theorem de_isi {x : Str} {e : Expr} {ta : TD} {T : String} {p p2 pos : Pos} (c : Cok P w K mg base X N sc fs k) (hg : glB sc "isinstance" = true) (hm : mg "isinstance" = none) (hg2 : glB sc x = true) (hm2 : mg x = none) (hv : bootBuiltins x = some (.type T)) (ha : DE X e ta)
    (he : starEach [e, .Name x p2] X.env = (false, eval e X.env) :: starEach [.Name x p2] X.env := by rfl) : DE X (.Call (.Name "isinstance" p) [e, .Name x p2] [] pos) (qIsi T ta) := by
  obtain ⟨t1, p1, a1⟩ := ha
  have g := gl_of c hg
  have g2 := gl_of c hg2
  refine ⟨⟨_, pe_callB call_isi g.1 (by rw [c.hmg]; exact hm) (by decide +kernel) (pa_cons p1 (pa_cons (pe_bltn (v := .ty T) g2.1 (by rw [c.hmg]; exact hm2) hv rfl g2.2.1 g2.2.2) pa_nil rfl) he) g.2.1 g.2.2 he rfl, fun F σ H ε st Qd Q R E h kk => ?_⟩⟩
  refine a1.go (W := fun x H1 => rIsi X.K (x :: [.ty T]) H1 Q) R E h kk fun F1 H1 s1 v y R1 E1 rv q kk => ?_
  split at q
  rotate_left
  · exact q.elim
  rename_i T' e1
  split at q
  rotate_left
  · exact q.elim
  rename_i b e2
  exact ⟨v, .ty T, .type T', .type T, b, rfl, .ty T, tyx_of R1 rv e1, kit_ty e2, kk.at R1 (.d (.bl _)) q⟩

/-! ### dicts -/
def keyD : DV → Option Key
  | .d (.int i) => some (.inl i)
  | .d (.str x) => some (.inr x)
  | _ => none
def keyT : List DV → Option (List Key)
  | [] => some []
  | x :: r => match keyD x, keyT r with | some k, some l => some (k :: l) | _, _ => none
def lookD {κ : Type} [DecidableEq κ] (kvs : List (κ × DV)) (k : κ) : Option DV := (kvs.find? fun kv => decide (kv.1 = k)).map (·.2)
def putD {κ : Type} [DecidableEq κ] (kvs : List (κ × DV)) (k : κ) (v : DV) : List (κ × DV) :=
  if (kvs.any fun kv => decide (kv.1 = k)) = true then kvs.map fun kv => if kv.1 = k then (kv.1, v) else kv else kvs ++ [(k, v)]
abbrev PR (K : PySem.W.Frag) (F : Hp) {κ : Type} : List (κ × V) → List (κ × DV) → Prop := Paired fun p q => p.1 = q.1 ∧ RV K F p.2 q.2
theorem key_rv {F : Hp} {v : V} {x : DV} {q : Key} (r : RV K F v x) (h : keyD x = some q) : v = kV q := by
  cases x with
  | d z =>
    cases z with
    | int i => cases h; exact rv_int r
    | str s => cases h; exact rv_str r
    | _ => cases h
  | r a => cases h
  | t a => cases h
theorem keyT_rv : ∀ {F : Hp} {vs : List V} {xs : List DV} {q : List Key}, RVs K F vs xs → keyT xs = some q → vs = q.map kV
  | _, _, [], q, r, h => by cases h; cases r; rfl
  | F, v :: vs, x :: xs, q, .cons r s, h => by
    unfold keyT at h
    cases e1 : keyD x with
    | none => rw [e1] at h; cases h
    | some a =>
      cases e2 : keyT xs with
      | none => rw [e1, e2] at h; cases h
      | some l =>
        rw [e1, e2] at h
        cases h
        rw [key_rv r e1, keyT_rv s e2]
        rfl
theorem look_rv {κ : Type} [DecidableEq κ] {F : Hp} {ws : List (κ × V)} {kvs : List (κ × DV)} (r : PR K F ws kvs) (q : κ) : (∃ v x, valV ws q = some v ∧ lookD kvs q = some x ∧ RV K F v x) ∨ (valV ws q = none ∧ lookD kvs q = none) := by
  induction r with
  | nil => exact .inr ⟨rfl, rfl⟩
  | @cons a b l1 l2 h t ih =>
    obtain ⟨e, r⟩ := h
    by_cases hq : a.1 = q
    · refine .inl ⟨a.2, b.2, valV_pos hq, ?_, r⟩
      unfold lookD
      rw [List.find?_cons, decide_eq_true (e ▸ hq)]
      rfl
    · have h1 : valV (a :: l1) q = valV l1 q := valV_neg hq
      have h2 : lookD (b :: l2) q = lookD l2 q := by
        unfold lookD
        rw [List.find?_cons, decide_eq_false (e ▸ hq)]
      rw [h1, h2]
      exact ih
theorem put_rv {κ : Type} [DecidableEq κ] {F : Hp} {ws : List (κ × V)} {kvs : List (κ × DV)} (r : PR K F ws kvs) (q : κ) {v : V} {x : DV} (rx : RV K F v x) : PR K F (putK ws q v) (putD kvs q x) := by
  have ha : (ws.any fun kv => decide (kv.1 = q)) = kvs.any fun kv => decide (kv.1 = q) := by
    clear rx
    induction r with
    | nil => rfl
    | @cons a b l1 l2 h t ih => rw [List.any_cons, List.any_cons, ih, h.1]
  unfold putK putD
  rw [ha]
  by_cases h : (kvs.any fun kv => decide (kv.1 = q)) = true
  · rw [if_pos h, if_pos h]
    clear ha h
    induction r with
    | nil => exact .nil
    | @cons a b l1 l2 h t ih =>
      rw [List.map_cons, List.map_cons]
      refine .cons ?_ ih
      by_cases e : a.1 = q
      · rw [if_pos e, if_pos (h.1 ▸ e)]
        exact ⟨h.1, rx⟩
      · rw [if_neg e, if_neg (h.1 ▸ e)]
        exact h
  · rw [if_neg h, if_neg h]
    exact Paired.snoc r ⟨rfl, rx⟩
/-- what a dict of the store holds at a key -/
def dlook (m : Option MO) (y : DV) : Option (Option DV) := match m with
  | some (.dK kvs) => (keyD y).map fun q => lookD kvs q
  | some (.dT kvs) => match titems y with | some ys => (keyT ys).map fun q => lookD kvs q | none => none
  | _ => none
theorem dlook_at {F H : Hp} {st : Sto} {a : Addr} {u : V} {y : DV} {o : Option DV} (R : Rs K F H st) (r : RV K F u y) (h : dlook (st a) y = some o) : (∃ v x, o = some x ∧ DGet H a u (some v) ∧ RV K F v x) ∨ (o = none ∧ DGet H a u none) := by
  unfold dlook at h
  split at h
  · rename_i kvs e
    obtain ⟨ws, hw, s⟩ := R.ok a _ e
    cases ek : keyD y with
    | none => rw [ek] at h; cases h
    | some q =>
      rw [ek] at h
      cases h
      rw [key_rv r ek]
      rcases look_rv s q with ⟨v, x, e1, e2, rx⟩ | ⟨e1, e2⟩
      · refine .inl ⟨v, x, e2, ?_, rx⟩
        rw [← e1]
        exact DGet.k hw
      · refine .inr ⟨e2, ?_⟩
        rw [← e1]
        exact DGet.k hw
  · rename_i kvs e
    obtain ⟨ws, hw, s⟩ := R.ok a _ e
    split at h
    · rename_i ys ey
      obtain ⟨b, vs, rfl, hb, sb⟩ := titems_rv r ey
      cases ek : keyT ys with
      | none => rw [ek] at h; cases h
      | some q =>
        rw [ek] at h
        cases h
        have hv := keyT_rv sb ek
        subst hv
        have hb' := (R.sub _ _ hb).1
        rcases look_rv s q with ⟨v, x, e1, e2, rx⟩ | ⟨e1, e2⟩
        · refine .inl ⟨v, x, e2, ?_, rx⟩
          rw [← e1]
          exact DGet.t hw hb'
        · refine .inr ⟨e2, ?_⟩
          rw [← e1]
          exact DGet.t hw hb'
    · cases h
  · cases h
def dput (m : Option MO) (y x : DV) : Option MO := match m with
  | some (.dK kvs) => match keyD y with | some q => if kvs.length < sizeLine then some (.dK (putD kvs q x)) else none | none => none
  | some (.dT kvs) => match titems y with | some ys => (match keyT ys with | some q => if kvs.length < sizeLine then some (.dT (putD kvs q x)) else none | none => none) | none => none
  | _ => none
theorem dput_at {F H : Hp} {st : Sto} {a : Addr} {u v : V} {y x : DV} {m : MO} (R : Rs K F H st) (r : RV K F u y) (rx : RV K F v x) (h : dput (st a) y x = some m) : ∃ H', DPut H a u v H' ∧ Step F H st F H' (up st a m) ∧ Rs K F H' (up st a m) := by
  unfold dput at h
  split at h
  · rename_i kvs e
    obtain ⟨ws, hw, s⟩ := R.ok a _ e
    split at h
    · rename_i q ek
      split at h
      · rename_i hl
        cases h
        rw [key_rv r ek]
        have hl2 : ws.length = kvs.length := Paired.length s
        obtain ⟨R', t⟩ := R.put (o := .dK (putK ws q v)) (m := .dK (putD kvs q x)) e ⟨_, upd_same, put_rv s q rx⟩
        exact ⟨_, DPut.k hw (by omega), t, R'⟩
      · cases h
    · cases h
  · rename_i kvs e
    obtain ⟨ws, hw, s⟩ := R.ok a _ e
    split at h
    · rename_i ys ey
      obtain ⟨b, vs, rfl, hb, sb⟩ := titems_rv r ey
      split at h
      · rename_i q ek
        split at h
        · rename_i hl
          cases h
          have hv := keyT_rv sb ek
          subst hv
          have hl2 : ws.length = kvs.length := Paired.length s
          obtain ⟨R', t⟩ := R.put (o := .dT (putK ws q v)) (m := .dT (putD kvs q x)) e ⟨_, upd_same, put_rv s q rx⟩
          exact ⟨_, DPut.t hw (R.sub _ _ hb).1 (by omega), t, R'⟩
        · cases h
      · cases h
    · cases h
  · cases h
def qDGet : R2D := fun x y st Q => match x with
  | .r a => (match dlook (st a) y with | some (some z) => Q z st | _ => False)
  | _ => False
theorem de_dget {o i : Expr} {pos : Pos} {ta tb : TD} (c : Cok P w K mg base X N sc fs k) (ho : DE X o ta) (hi : DE X i tb) (hs : NoSl i) : DE X (.Subscript o i pos) (qOp qDGet ta tb) := by
  obtain ⟨te, pa, sa⟩ := ho
  obtain ⟨tf, pb, sb⟩ := hi
  refine ⟨⟨_, pe_dget c.hu pa pb hs, Sg.bin (r' := fun x y H Q => ∃ a v, x = .ref a ∧ DGet H a y (some v) ∧ Q v H) sa sb (fun _ _ _ _ e h => RV.mono e h) ?_⟩⟩
  intro F H st v w x y Qd Q R rv rw' h kk
  unfold qDGet at h
  split at h
  · cases rv
    split at h
    · rename_i z e
      rcases dlook_at R rw' e with ⟨v, x, e1, g, rx⟩ | ⟨e1, _⟩
      · cases e1
        exact ⟨_, v, rfl, g, kk.at R rx h⟩
      · cases e1
    · exact h.elim
  · exact h.elim
def qDIn (neg : Bool) : R2D := fun y x st Q => match x with
  | .r a => (match dlook (st a) y with | some o => Q (.d (.bool (if neg then !o.isSome else o.isSome))) st | none => False)
  | _ => False
theorem de_din {i o : Expr} {pos : Pos} {ta tb : TD} (c : Cok P w K mg base X N sc fs k) (hi : DE X i ta) (ho : DE X o tb) (hm : behindInMarks .In o = false := by rfl) : DE X (.Compare i [.In] [o] pos) (qOp (qDIn false) ta tb) := by
  obtain ⟨te, pa, sa⟩ := hi
  obtain ⟨tf, pb, sb⟩ := ho
  refine ⟨⟨_, pe_cmp (pc_din c.hu pa pb) hm, Sg.bin (r' := fun y x H Q => ∃ a o, x = V.ref a ∧ DGet H a y o ∧ Q (V.bl o.isSome) H) sa sb (fun _ _ _ _ e h => RV.mono e h) ?_⟩⟩
  intro F H st v w x y Qd Q R rv rw' h kk
  unfold qDIn at h
  split at h
  · cases rw'
    split at h
    rotate_left
    · exact h.elim
    rename_i z e
    have q := h
    rcases dlook_at R rv e with ⟨v, x, e1, g, rx⟩ | ⟨e1, g⟩
    · subst e1
      exact ⟨_, some v, rfl, g, kk.at R (.d (.bl _)) q⟩
    · subst e1
      exact ⟨_, none, rfl, g, kk.at R (.d (.bl _)) q⟩
  · exact h.elim
theorem de_dnotin {i o : Expr} {pos : Pos} {ta tb : TD} (c : Cok P w K mg base X N sc fs k) (hi : DE X i ta) (ho : DE X o tb) (hm : behindInMarks .NotIn o = false := by rfl) : DE X (.Compare i [.NotIn] [o] pos) (qOp (qDIn true) ta tb) := by
  obtain ⟨te, pa, sa⟩ := hi
  obtain ⟨tf, pb, sb⟩ := ho
  refine ⟨⟨_, pe_cmp (pc_dnotin c.hu pa pb) hm, Sg.bin (r' := fun y x H Q => ∃ a o, x = V.ref a ∧ DGet H a y o ∧ Q (V.bl (!o.isSome)) H) sa sb (fun _ _ _ _ e h => RV.mono e h) ?_⟩⟩
  intro F H st v w x y Qd Q R rv rw' h kk
  unfold qDIn at h
  split at h
  · cases rw'
    split at h
    rotate_left
    · exact h.elim
    rename_i z e
    have q := h
    rcases dlook_at R rv e with ⟨v, x, e1, g, rx⟩ | ⟨e1, g⟩
    · subst e1
      exact ⟨_, some v, rfl, g, kk.at R (.d (.bl _)) q⟩
    · subst e1
      exact ⟨_, none, rfl, g, kk.at R (.d (.bl _)) q⟩
  · exact h.elim
theorem dt_din {i o : Expr} {pos : Pos} {ta tb : TD} (c : Cok P w K mg base X N sc fs k) (hi : DE X i ta) (ho : DE X o tb) (hm : behindInMarks .In o = false := by rfl) : DT X (.Compare i [.In] [o] pos) (qTest (qOp (qDIn false) ta tb)) := by
  obtain ⟨te, pa, sa⟩ := hi
  obtain ⟨tf, pb, sb⟩ := ho
  refine ⟨⟨_, pt_cmp (pc_din c.hu pa pb) hm, test_sg (Sg.bin (r' := fun y x H Q => ∃ a o, x = V.ref a ∧ DGet H a y o ∧ Q (V.bl o.isSome) H) sa sb (fun _ _ _ _ e h => RV.mono e h) ?_)⟩⟩
  intro F H st v w x y Qd Q R rv rw' h kk
  unfold qDIn at h
  split at h
  · cases rw'
    split at h
    rotate_left
    · exact h.elim
    rename_i z e
    have q := h
    rcases dlook_at R rv e with ⟨v, x, e1, g, rx⟩ | ⟨e1, g⟩
    · subst e1
      exact ⟨_, some v, rfl, g, kk.at R (.d (.bl _)) q⟩
    · subst e1
      exact ⟨_, none, rfl, g, kk.at R (.d (.bl _)) q⟩
  · exact h.elim
theorem dt_dnotin {i o : Expr} {pos : Pos} {ta tb : TD} (c : Cok P w K mg base X N sc fs k) (hi : DE X i ta) (ho : DE X o tb) (hm : behindInMarks .NotIn o = false := by rfl) : DT X (.Compare i [.NotIn] [o] pos) (qTest (qOp (qDIn true) ta tb)) := by
  obtain ⟨te, pa, sa⟩ := hi
  obtain ⟨tf, pb, sb⟩ := ho
  refine ⟨⟨_, pt_cmp (pc_dnotin c.hu pa pb) hm, test_sg (Sg.bin (r' := fun y x H Q => ∃ a o, x = V.ref a ∧ DGet H a y o ∧ Q (V.bl (!o.isSome)) H) sa sb (fun _ _ _ _ e h => RV.mono e h) ?_)⟩⟩
  intro F H st v w x y Qd Q R rv rw' h kk
  unfold qDIn at h
  split at h
  · cases rw'
    split at h
    rotate_left
    · exact h.elim
    rename_i z e
    have q := h
    rcases dlook_at R rv e with ⟨v, x, e1, g, rx⟩ | ⟨e1, g⟩
    · subst e1
      exact ⟨_, some v, rfl, g, kk.at R (.d (.bl _)) q⟩
    · subst e1
      exact ⟨_, none, rfl, g, kk.at R (.d (.bl _)) q⟩
  · exact h.elim
/-- d[k] = v -/
def qDPut (td ty tv : TD) : TDs := fun D ε st => tv ε st fun v s1 => td ε s1 fun x s2 => ty ε s2 fun y s3 => match x with
  | .r a => (match dput (s3 a) y v with | some m => D.nx ε (up s3 a m) | none => False)
  | _ => False
theorem ds_dput {o i value : Expr} {pos pos' : Pos} {td ty tv : TD} (c : Cok P w K mg base X N sc fs k) (ho : DE X o td) (hi : DE X i ty) (hv : DE X value tv) (hs : swapsWith value (some (.Subscript o i pos')) pos.line X.env = pure false) : DS X (.Assign [.Subscript o i pos'] value pos) (qDPut td ty tv) := by
  obtain ⟨t1, p1, a1⟩ := ho
  obtain ⟨t2, p2, a2⟩ := hi
  obtain ⟨t3, p3, a3⟩ := hv
  refine ⟨⟨_, ps_dput c.hu p1 p2 p3 hs, fun F σ H ε st Dd D R E h kk => ?_⟩⟩
  refine a3 F σ H ε st _ _ R E h fun F1 v H1 x s1 st1 R1 r1 q => ?_
  refine a1 F1 σ H1 ε s1 _ _ R1 (E.mono st1.ex) q fun F2 u H2 y s2 st2 R2 r2 q => ?_
  refine a2 F2 σ H2 ε s2 _ _ R2 (E.mono (st1.trans st2).ex) q fun F3 z H3 y' s3 st3 R3 r3 q => ?_
  split at q
  · cases r2
    split at q
    rotate_left
    · exact q.elim
    rename_i m em
    obtain ⟨H4, g, t, R4⟩ := dput_at R3 r3 (r1.mono (st2.trans st3).ex) em
    exact ⟨_, H4, rfl, g, kk.nx F3 σ H4 ε _ (((st1.trans st2).trans st3).trans t) R4 (E.mono ((st1.trans st2).trans st3).ex) q⟩
  · exact q.elim
def qDNew (T : Bool) : TD := fun _ st Q => ∀ p, st p = none → Q (.r p) (up st p (if T then .dT [] else .dK []))
theorem de_dnew {pos : Pos} (T : Bool) : DE X (.Dict [] [] pos) (qDNew T) := by
  cases T with
  | true => exact ⟨⟨_, pe_dnewT, fun F σ H ε st Qd Q R E h kk p hp => by
      obtain ⟨R', t⟩ := R.new (o := .dT []) (m := .dT []) hp ⟨[], upd_same, .nil⟩
      exact kk _ _ _ _ _ t R' (.r p) (h p (R.free hp).2)⟩⟩
  | false => exact ⟨⟨_, pe_dnewK, fun F σ H ε st Qd Q R E h kk p hp => by
      obtain ⟨R', t⟩ := R.new (o := .dK []) (m := .dK []) hp ⟨[], upd_same, .nil⟩
      exact kk _ _ _ _ _ t R' (.r p) (h p (R.free hp).2)⟩⟩
end
end DL
end

section
set_option Elab.async false
set_option linter.all false
set_option maxRecDepth 100000
set_option maxHeartbeats 4000000
namespace DLM
open PySem PySem.Spec
open AutoSeq1 (wpAny_loadPart' idx_int sub_tuple_tuple sub_list_list sub_tuple_list sub_list_tuple)
theorem list_extend_gen (l : Addr) (items : Array Value) (n : Nat) (b : Addr) (items2 : Array Value) (n2 : Nat) (sl : Array (Option Value)) (hc0 : ¬(!items.isEmpty && Builtin.List.listTooLong (items.size + items2.size)) = true) (hc1 : items.size ≤ sizeLine) (hs2 : items.size + items2.size ≤ sizeLine + 1) :
    Meets (Builtin.«list.extend» ⟨[.ref l, .ref b], []⟩) (fun _ R s => s.heap.get? l = some { cls := .type "list", dict := none, data := .seq items n, slots := #[] } ∧ s.heap.get? b = some { cls := .type "list", dict := none, data := .seq items2 n2, slots := sl } ∧ R (.ok (.ret Value.none)) { s with heap := s.heap.update l (Obj.mapSeq fun x => x ++ items2), toks := s.toks }) :=
  .of_wp fun prog w A R s h => by
    obtain ⟨hp, g, d, tk, os⟩ := s; obtain ⟨hl, hb, h⟩ := h; have f1 := idx_int; have f2 := sub_tuple_tuple; have f3 := sub_list_list; have f4 := sub_tuple_list; have f5 := sub_list_tuple;
    have hz' : (items ++ items2).size ≤ sizeLine + 1 := by rw [Array.size_append]; exact hs2
    wp_walk using (wpAny_updateSeq hl rfl (hz := hc1) (_hz' := hz')), wpAny_loadPart' hl, wpAny_loadPart' hb; exact ⟨_, rfl, h⟩
theorem list_extend_genT (l : Addr) (items : Array Value) (n : Nat) (b : Addr) (items2 : Array Value) (n2 : Nat) (dd : Option Addr) (sl : Array (Option Value)) (hc0 : ¬(!items.isEmpty && Builtin.List.listTooLong (items.size + items2.size)) = true) (hc1 : items.size ≤ sizeLine) (hs2 : items.size + items2.size ≤ sizeLine + 1) :
    Meets (Builtin.«list.extend» ⟨[.ref l, .ref b], []⟩) (fun _ R s => s.heap.get? l = some { cls := .type "list", dict := none, data := .seq items n, slots := #[] } ∧ s.heap.get? b = some { cls := .type "tuple", dict := dd, data := .seq items2 n2, slots := sl } ∧ R (.ok (.ret Value.none)) { s with heap := s.heap.update l (Obj.mapSeq fun x => x ++ items2), toks := s.toks }) :=
  .of_wp fun prog w A R s h => by
    obtain ⟨hp, g, d, tk, os⟩ := s; obtain ⟨hl, hb, h⟩ := h; have f1 := idx_int; have f2 := sub_tuple_tuple; have f3 := sub_list_list; have f4 := sub_tuple_list; have f5 := sub_list_tuple;
    have hz' : (items ++ items2).size ≤ sizeLine + 1 := by rw [Array.size_append]; exact hs2
    wp_walk using (wpAny_updateSeq hl rfl (hz := hc1) (_hz' := hz')), wpAny_loadPart' hl, wpAny_loadPart' hb; exact ⟨_, rfl, h⟩
end DLM
namespace DL
open PySem L2 PyProof.Rows
section
variable {P : Program} {w : World} {K : PySem.W.Frag} {mg : Str → Option Value} {base : Heap} {X : Cx} {N : List Str} {sc fs : Scope} {k : Nat}
/-! ### dict displays with written text keys -/
def qPairs : List (Str × TD) → Env → Sto → (List (Key × DV) → Sto → Prop) → Prop
  | [], _, st, Q => Q [] st
  | (x, t) :: r, ε, st, Q => t ε st fun v s1 => qPairs r ε s1 fun ps s2 => Q ((.inr x, v) :: ps) s2
structure DPs (X : Cx) (pos : Pos) (keys : List (Option Expr)) (values : List Expr) (l : List (Str × TD)) : Prop where
  ex : ∃ trs, PPs X pos keys values trs ∧ ∀ F σ H ε st Qd (Q : List (V × V) → Hp → Prop), Rs X.K F H st → RE X.K F σ ε → qPairs l ε st Qd →
    (∀ F' H' (ps : List (Key × V)) qs st', Step F H st F' H' st' → Rs X.K F' H' st' → PR X.K F' ps qs → Qd qs st' → Q (ps.map fun kv => (kV kv.1, kv.2)) H') → tPairs trs σ H Q
theorem dps_nil {pos : Pos} : DPs X pos [] [] [] := ⟨⟨[], pps_nil, fun F σ H ε st Qd Q R E h kk => kk F H [] [] st (Step.refl _ _ _) R .nil h⟩⟩
theorem dps_cons {pos p2 : Pos} {x : Str} {j : Nat} {v : Expr} {ks : List (Option Expr)} {vs : List Expr} {t : TD} {l : List (Str × TD)} (hv : DE X v t) (hr : DPs X pos ks vs l) : DPs X pos (some (.Constant (.str x) j p2) :: ks) (v :: vs) ((x, t) :: l) := by
  obtain ⟨t1, p1, a1⟩ := hv
  obtain ⟨trs, p3, a3⟩ := hr
  refine ⟨⟨_, pps_cons pe_str p1 p3, fun F σ H ε st Qd Q R E h kk => ?_⟩⟩
  refine a1 F σ H ε st _ _ R E h fun F1 v H1 y s1 st1 R1 r q => ?_
  exact a3 F1 σ H1 ε s1 _ _ R1 (E.mono st1.ex) q fun F2 H2 ps qs s2 st2 R2 rr q2 => kk F2 H2 ((.inr x, v) :: ps) ((.inr x, y) :: qs) s2 (st1.trans st2) R2 (.cons ⟨rfl, r.mono st2.ex⟩ rr) q2
def mergeD (kvs more : List (Key × DV)) : List (Key × DV) := more.foldl (fun acc kv => putD acc kv.1 kv.2) kvs
theorem merge_rv {F : Hp} : ∀ {more : List (Key × V)} {moreD : List (Key × DV)} {kvs : List (Key × V)} {kvsD : List (Key × DV)}, PR K F more moreD → PR K F kvs kvsD → PR K F (mergeK kvs more) (mergeD kvsD moreD)
  | _, _, _, _, .nil, h => h
  | a :: _, b :: _, _, _, .cons r t, h => by
    have e := r.1
    have := merge_rv t (put_rv h a.1 r.2)
    unfold mergeK mergeD at this ⊢
    rw [List.foldl_cons, List.foldl_cons, ← e]
    exact this
def qDisp (l : List (Str × TD)) : TD := fun ε st Q => qPairs l ε st fun qs s1 => qs.length ≤ 15 ∧ ∀ p, s1 p = none → Q (.r p) (up s1 p (.dK (mergeD [] qs)))
theorem de_disp {pos : Pos} {keys : List (Option Expr)} {values : List Expr} {l : List (Str × TD)} (h : DPs X pos keys values l) (hall : keys.all (·.isSome) = true) (hl : keys.length = values.length) (h0 : keys ≠ []) (h15 : keys.length ≤ 15) : DE X (.Dict keys values pos) (qDisp l) := by
  obtain ⟨trs, p, a⟩ := h
  refine ⟨⟨_, pe_disp p hall hl h0 h15, fun F σ H ε st Qd Q R E h kk p hp => ?_⟩⟩
  obtain ⟨f0, s0⟩ := R.free hp
  obtain ⟨R', t'⟩ := R.hide (o := .dK []) hp
  refine a F σ _ ε st _ _ R' E h fun F1 H1 ps qs s1 t1 R1 rr ⟨h15', q⟩ => ?_
  obtain ⟨hp1, f1, d1⟩ := t1.hid upd_same f0 s0
  have hlen : ps.length = qs.length := Paired.length rr
  refine ⟨hp1, ps, rfl, by omega, ?_⟩
  have R2 := R1.hput (o := .dK (mergeK [] ps)) f1 d1
  have t2 : Step F H st F1 (upd H1 p (.dK (mergeK [] ps))) s1 := (t'.trans t1).hput hp
  refine kk F1 (.ref p) _ (.r p) (up s1 p (.dK (mergeD [] qs))) ⟨t2.ex, fun a u ha k => ?_, t2.fnew⟩ ⟨fun a u ha => ?_, fun a m ha => ?_⟩ (.r p) (q p d1)
  · rw [up_ne (fun z => by rw [z, hp] at ha; cases ha)]; exact t2.pres a u ha k
  · rw [up_ne (fun z => by rw [z, f1] at ha; cases ha)]; exact R2.sub a u ha
  · by_cases z : a = p
    · subst z; rw [up_same] at ha; cases ha; exact ⟨_, upd_same, merge_rv rr .nil⟩
    · rw [up_ne z] at ha; exact R2.ok a m ha

/-! ### methods of lists of the store -/
theorem mt_extendA : MtM X "list.extend" (fun x vs H Q => ∃ l b xs zs, x = .ref l ∧ vs = [.ref b] ∧ H l = some (.lst xs) ∧ (SqL X.K H b zs ∨ SqT X.K H b zs) ∧ xs.length + zs.length ≤ sizeLine ∧ Q .non (upd H l (.lst (xs ++ zs)))) := by
  intro pins s σ H x vs v us Q I rx rv h
  obtain ⟨l, b, xs, zs, rfl, rfl, hH, hB, hz, q⟩ := h
  cases rx
  obtain ⟨u, rfl, ru⟩ := rv.one
  cases ru
  obtain ⟨z, its, n, r, hl, e⟩ := I.lstM hH
  rcases hB with hB | hB
  · obtain ⟨its2, r2, ⟨⟨cls2, dd2, data2, sl2⟩, n2, ho2, hc2, hd02, hd2⟩, hs2⟩ := I.list hB
    simp only at hc2 hd02 hd2
    subst hc2 hd02 hd2
    have hl2 := r2.length
    have hsz : its.toArray.size + its2.toArray.size ≤ sizeLine := by rw [List.size_toArray, List.size_toArray]; omega
    have hlong : ¬ (!its.toArray.isEmpty && Builtin.List.listTooLong (its.toArray.size + its2.toArray.size)) = true := by
      rw [notLongL hsz, Bool.and_false]
      exact Bool.false_ne_true
    refine call_meets F.slot_list_extend ⟨_, e, rfl⟩ F.entry_list_extend (F.args_list_extend_2 _ _)
      (DLM.list_extend_gen l its.toArray n b its2.toArray n2 sl2 hlong (by rw [List.size_toArray]; omega) (by omega)) ⟨e, ho2, ?_⟩
    refine ⟨.non, _, I.lset (its' := its ++ its2) hH e (by simp) (r.append r2) ?_, rfl, q⟩
    rw [List.length_append]
    omega
  · obtain ⟨its2, r2, ⟨⟨cls2, dd2, data2, sl2⟩, ho2, hc2, n2, hd2⟩, hs2⟩ := I.tuple hB
    simp only at hc2 hd2
    subst hc2 hd2
    have hl2 := r2.length
    have hsz : its.toArray.size + its2.toArray.size ≤ sizeLine := by rw [List.size_toArray, List.size_toArray]; omega
    have hlong : ¬ (!its.toArray.isEmpty && Builtin.List.listTooLong (its.toArray.size + its2.toArray.size)) = true := by
      rw [notLongL hsz, Bool.and_false]
      exact Bool.false_ne_true
    refine call_meets F.slot_list_extend ⟨_, e, rfl⟩ F.entry_list_extend (F.args_list_extend_2 _ _)
      (DLM.list_extend_genT l its.toArray n b its2.toArray n2 dd2 sl2 hlong (by rw [List.size_toArray]; omega) (by omega)) ⟨e, ho2, ?_⟩
    refine ⟨.non, _, I.lset (its' := its ++ its2) hH e (by simp) (r.append r2) ?_, rfl, q⟩
    rw [List.length_append]
    omega
/-- xs.append(e), xs.extend(e) as a statement's expression -/
def qAppend (to te : TD) : TD := fun ε st Q => to ε st fun x s1 => match x with
  | .r a => (∃ xs, s1 a = some (.lst xs)) ∧ te ε s1 fun y s2 => ∃ xs, s2 a = some (.lst xs) ∧ xs.length < sizeLine ∧ Q (.d .none) (up s2 a (.lst (xs ++ [y])))
  | _ => False
theorem de_append {o e : Expr} {to te : TD} {apos cpos : Pos} (ho : DE X o to) (he : DE X e te) (hbase : attributeBase o "append" X.env (eval o X.env) = eval o X.env := by rfl)
    (hfew : ((backTo cpos (starEach [e] X.env)).all (fun x => !x.1) && (backToKw cpos (keywordEach [] X.env)).all (fun x => x.1.isSome)
      && decide ([e].length + ([] : List Keyword).length + (if ([] : List Keyword).isEmpty then 0 else 1) < 30)) = true := by rfl)
    (hline : (apos.endLine == cpos.line) = true := by rfl) (hs : starEach [e] X.env = (false, eval e X.env) :: starEach [] X.env := by rfl) : DE X (.Call (.Attribute o "append" apos) [e] [] cpos) (qAppend to te) := by
  obtain ⟨t1, p1, a1⟩ := ho
  obtain ⟨t2, p2, a2⟩ := he
  refine ⟨⟨_, pe_bm PySem.F.plainAttrs_list PySem.F.slot_list_append PySem.F.type_list_append mt_append p1 (pa_cons p2 pa_nil hs) hbase hfew hline hs rfl, fun F σ H ε st Qd Q R E h kk => ?_⟩⟩
  refine a1 F σ H ε st _ _ R E h fun F1 v H1 x s1 st1 R1 r q => ?_
  split at q
  · cases r
    obtain ⟨⟨xs0, e0⟩, q⟩ := q
    obtain ⟨vs0, hv0, _⟩ := R1.ok _ _ e0
    refine ⟨Or.inl ⟨rfl, _, SqL.of hv0⟩, a2 F1 σ H1 ε s1 _ _ R1 (E.mono st1.ex) q fun F2 u H2 y s2 st2 R2 r2 ⟨xs, ex, hl, q⟩ => ?_⟩
    obtain ⟨vs, hv, s⟩ := R2.ok _ _ ex
    have hlen := s.length
    obtain ⟨R3, t3⟩ := R2.put (o := .lst (vs ++ [u])) (m := .lst (xs ++ [y])) ex ⟨_, upd_same, s.append (.cons r2 .nil)⟩
    exact ⟨_, vs, u, rfl, rfl, hv, by omega, kk F2 _ _ (.d .none) _ ((st1.trans st2).trans t3) R3 (.d .non) q⟩
  · exact q.elim
def qExtend (to te : TD) : TD := fun ε st Q => to ε st fun x s1 => match x with
  | .r a => (∃ xs, s1 a = some (.lst xs)) ∧ te ε s1 fun y s2 => ∃ xs ys, s2 a = some (.lst xs) ∧ sitems s2 y = some ys ∧ xs.length + ys.length ≤ sizeLine ∧ Q (.d .none) (up s2 a (.lst (xs ++ ys)))
  | _ => False
theorem de_extend {o e : Expr} {to te : TD} {apos cpos : Pos} (ho : DE X o to) (he : DE X e te) (hbase : attributeBase o "extend" X.env (eval o X.env) = eval o X.env := by rfl)
    (hfew : ((backTo cpos (starEach [e] X.env)).all (fun x => !x.1) && (backToKw cpos (keywordEach [] X.env)).all (fun x => x.1.isSome)
      && decide ([e].length + ([] : List Keyword).length + (if ([] : List Keyword).isEmpty then 0 else 1) < 30)) = true := by rfl)
    (hline : (apos.endLine == cpos.line) = true := by rfl) (hs : starEach [e] X.env = (false, eval e X.env) :: starEach [] X.env := by rfl) : DE X (.Call (.Attribute o "extend" apos) [e] [] cpos) (qExtend to te) := by
  obtain ⟨t1, p1, a1⟩ := ho
  obtain ⟨t2, p2, a2⟩ := he
  refine ⟨⟨_, pe_bm PySem.F.plainAttrs_list PySem.F.slot_list_extend PySem.F.type_list_extend mt_extendA p1 (pa_cons p2 pa_nil hs) hbase hfew hline hs rfl, fun F σ H ε st Qd Q R E h kk => ?_⟩⟩
  refine a1 F σ H ε st _ _ R E h fun F1 v H1 x s1 st1 R1 r q => ?_
  split at q
  · cases r
    obtain ⟨⟨xs0, e0⟩, q⟩ := q
    obtain ⟨vs0, hv0, _⟩ := R1.ok _ _ e0
    refine ⟨Or.inl ⟨rfl, _, SqL.of hv0⟩, a2 F1 σ H1 ε s1 _ _ R1 (E.mono st1.ex) q fun F2 u H2 y s2 st2 R2 r2 ⟨xs, ys, ex, ey, hl, q⟩ => ?_⟩
    obtain ⟨vs, hv, s⟩ := R2.ok _ _ ex
    obtain ⟨b, ws, rfl, hq, s2'⟩ := sitems_rv R2 r2 ey
    have hlen := s.length
    have hlen2 := s2'.length
    obtain ⟨R3, t3⟩ := R2.put (o := .lst (vs ++ ws)) (m := .lst (xs ++ ys)) ex ⟨_, upd_same, s.append s2'⟩
    exact ⟨_, b, vs, ws, rfl, rfl, hv, hq, by omega, kk F2 _ _ (.d .none) _ ((st1.trans st2).trans t3) R3 (.d .non) q⟩
  · exact q.elim
end
end DL
end

section
set_option Elab.async false
set_option linter.all false
set_option maxRecDepth 100000
set_option maxHeartbeats 4000000
namespace DL
open PySem L2 PyProof.Rows
theorem bb_len : bootBuiltins "len" = some (.builtin "len") := by decide +kernel
theorem bb_sum : bootBuiltins "sum" = some (.builtin "sum") := by decide +kernel
theorem bb_max : bootBuiltins "max" = some (.builtin "max") := by decide +kernel
theorem bb_min : bootBuiltins "min" = some (.builtin "min") := by decide +kernel
theorem bb_any : bootBuiltins "any" = some (.builtin "any") := by decide +kernel
theorem bb_all : bootBuiltins "all" = some (.builtin "all") := by decide +kernel
theorem bb_sorted : bootBuiltins "sorted" = some (.builtin "sorted") := by decide +kernel
theorem bt_tuple : bootBuiltins "tuple" = some (.type "tuple") := by decide +kernel
theorem bt_list : bootBuiltins "list" = some (.type "list") := by decide +kernel
theorem bt_int : bootBuiltins "int" = some (.type "int") := by decide +kernel
theorem bt_bool : bootBuiltins "bool" = some (.type "bool") := by decide +kernel
theorem bt_str : bootBuiltins "str" = some (.type "str") := by decide +kernel
theorem bt_dict : bootBuiltins "dict" = some (.type "dict") := by decide +kernel
theorem bt_set : bootBuiltins "set" = some (.type "set") := by decide +kernel
section
variable {P : Program} {w : World} {K : PySem.W.Frag} {mg : Str → Option Value} {base : Heap} {X : Cx} {N : List Str} {sc fs : Scope} {k : Nat}
/-- a def of the text that keeps a promise -/
def Cl (P : Program) (w : World) (K : PySem.W.Frag) (mg : Str → Option Value) (base : Heap) (x : Str) (j : Nat) (sp : SpD) : Prop :=
  ∃ (f : Addr) (fd : FuncData) (ps : List Str), mg x = some (.ref f) ∧ PySem.W.keepIn K (.ref f) = true ∧ FnOk P w K mg base CX0 j f fd ps (hsp K sp) ∧ Binds K fd ps []
theorem de_callC {x : Str} {e : Expr} {es : List Expr} {ta : TDa} {p pos : Pos} {sp : SpD} {j : Nat} (c : Cok P w K mg base X N sc fs k) (hg : glB sc x = true) (C : Cl P w K mg base x j sp) (hj : j ≤ k)
    (ha : DA X (e :: es) ta) (he : starEach (e :: es) X.env = (false, eval e X.env) :: starEach es X.env := by rfl) (hpl : (backTo pos (starEach es X.env)).any (·.1) = false := by rfl) : DE X (.Call (.Name x p) (e :: es) [] pos) (qCall sp ta) := by
  obtain ⟨f, fd, ps, hm, hk, G, b⟩ := C
  exact de_call c hg hm hk G hj b ha he hpl
theorem de_callC0 {x : Str} {p pos : Pos} {sp : SpD} {j : Nat} (c : Cok P w K mg base X N sc fs k) (hg : glB sc x = true) (C : Cl P w K mg base x j sp) (hj : j ≤ k) : DE X (.Call (.Name x p) [] [] pos) (qCall sp qNil) := by
  obtain ⟨f, fd, ps, hm, hk, G, b⟩ := C
  exact de_call0 c hg hm hk G hj b
theorem de_gint {x : Str} {i : Int} {pos : Pos} (c : Cok P w K mg base X N sc fs k) (hg : glB sc x = true) (hm : ∃ t, mg x = some (.int i t)) : DE X (.Name x pos) (qc (.d (.int i))) := by
  obtain ⟨t, hm⟩ := hm
  have g := gl_of c hg
  exact ⟨⟨_, pe_glob g.1 (by rw [c.hmg]; exact hm) (v := .int i) ⟨t, rfl⟩ g.2.2, fun F σ H ε st Qd Q R E q kk => kk.at R (.d (.int i)) q⟩⟩
theorem Cok.hu65 (c : Cok P w K mg base X N sc fs k) : X.A.units + 64 < cLine := c.hu64
theorem rp_all : ∀ {F : Hp} (ns : List Int), RpAll K F (ns.map V.int) (ns.map .int)
  | _, [] => .nil
  | _, n :: ns => .cons (.int n) (rp_all ns)
/-- the law's entry -/
theorem law_start {sp : SpD} {n : Nat} (h : ∀ ns : List Int, ns.length ≤ n → sp [.d (.list (ns.map .int))] (fun _ => none) (fun x _ => x = .d (.bool true))) {H : Hp} {a : Addr} {ns : List Int} {E : XK} (hl : ns.length ≤ n) (hb : Only H) (hS : SqL K H a (ns.map V.int)) : hsp K sp [.ref a] H (fun v _ => v = .bl true) E :=
  ⟨H, fun _ => none, _, _, ⟨fun _ _ e => ⟨e, rfl⟩, fun _ _ e => nomatch e⟩, .cons (.d (.lst hS (rp_all ns))) .nil, h ns hl, fun F v H' x st' _ _ r q => by subst q; exact rv_bool r⟩

/-! ### what a proof about readings uses -/
theorem qSeq_eq {t u : TDs} {D : EndsD} {ε : Env} {st : Sto} : qSeq t u D ε st = t { D with nx := u D } ε st := rfl
/-- a loop, by what holds ahead of the items that are left -/
theorem loop_by {inv : Sto → Prop} {g : TDg} {tb : TDs} {D : EndsD} (W : List DV → Env → Sto → Prop) (hi : ∀ ys ε st, W ys ε st → inv st)
    (hs : ∀ x ys ε st, W (x :: ys) ε st → ∀ L : Env → Sto → Prop, (∀ ε' st', W ys ε' st' → L ε' st') → g x ε st fun ε1 s1 => tb { D with nx := L, ct := L, bk := D.nx } ε1 s1) (hd : ∀ ε st, W [] ε st → D.nx ε st) :
    ∀ ys ε st, W ys ε st → qLoop inv g tb D ys ε st := by
  intro ys
  induction ys with
  | nil => exact fun ε st h => ⟨hi _ _ _ h, hd _ _ h⟩
  | cons y ys ih => exact fun ε st h => ⟨hi _ _ _ h, hs y ys ε st h _ ih⟩
/-- a comprehension, by what holds ahead of the items that are left -/
theorem comp_by {inv : Sto → Prop} {g : TDg} {tt : TDt} {te : TD} {ε : Env} {Kc : List DV → Sto → Prop} (W : List DV → List DV → Sto → Prop) (hi : ∀ ys acc st, W ys acc st → inv st)
    (hs : ∀ x ys acc st, W (x :: ys) acc st → ∀ L : List DV → Sto → Prop, (∀ acc' st', W ys acc' st' → L acc' st') → g x ε st fun ε1 s1 => tt ε1 s1 fun b s2 => if b = true then te ε1 s2 fun y s3 => L (acc ++ [y]) s3 else L acc s2) (hd : ∀ acc st, W [] acc st → Kc acc st) :
    ∀ ys acc st, W ys acc st → qComp inv g tt te ε Kc ys acc st := by
  intro ys
  induction ys with
  | nil => exact fun acc st h => ⟨hi _ _ _ h, hd _ _ h⟩
  | cons y ys ih => exact fun acc st h => ⟨hi _ _ _ h, hs y ys acc st h _ ih⟩
/-- [f x for x in xs], nothing of the store touched -/
theorem comp_map {inv : Sto → Prop} {g : TDg} {te : TD} {ε : Env} {Kc : List DV → Sto → Prop} {st : Sto} (f : DV → DV) (hi : inv st) : ∀ (xs acc : List DV), (∀ x ∈ xs, ∀ Q : DV → Sto → Prop, Q (f x) st → g x ε st fun ε1 s1 => te ε1 s1 Q) → Kc (acc ++ xs.map f) st → qComp inv g qYes te ε Kc xs acc st
  | [], acc, _, h => ⟨hi, by rw [List.map_nil, List.append_nil] at h; exact h⟩
  | x :: xs, acc, hx, h => by
    refine ⟨hi, ?_⟩
    refine hx x List.mem_cons_self (fun y s3 => qComp inv g qYes te ε Kc xs (acc ++ [y]) s3) ?_
    exact comp_map f hi xs (acc ++ [f x]) (fun y hy => hx y (List.mem_cons_of_mem _ hy)) (by rw [List.append_assoc]; exact h)
/-- [f x for x in xs if p x], nothing of the store touched -/
theorem comp_fm {inv : Sto → Prop} {g : TDg} {tt : TDt} {te : TD} {ε : Env} {Kc : List DV → Sto → Prop} {st : Sto} (p : DV → Bool) (f : DV → DV) (hi : inv st) : ∀ (xs acc : List DV),
    (∀ x ∈ xs, ∀ (Q1 : DV → Sto → Prop) (Q2 : Sto → Prop), (if p x = true then Q1 (f x) st else Q2 st) → g x ε st fun ε1 s1 => tt ε1 s1 fun b s2 => if b = true then te ε1 s2 Q1 else Q2 s2) → Kc (acc ++ (xs.filter p).map f) st → qComp inv g tt te ε Kc xs acc st
  | [], acc, _, h => ⟨hi, by rw [List.filter_nil, List.map_nil, List.append_nil] at h; exact h⟩
  | x :: xs, acc, hx, h => by
    refine ⟨hi, ?_⟩
    refine hx x List.mem_cons_self (fun y s3 => qComp inv g tt te ε Kc xs (acc ++ [y]) s3) (fun s2 => qComp inv g tt te ε Kc xs acc s2) ?_
    cases e : p x with
    | true =>
      rw [if_pos rfl]
      refine comp_fm p f hi xs (acc ++ [f x]) (fun y hy => hx y (List.mem_cons_of_mem _ hy)) ?_
      rw [List.filter_cons, if_pos e, List.map_cons] at h
      rw [List.append_assoc]
      exact h
    | false =>
      rw [if_neg Bool.false_ne_true]
      refine comp_fm p f hi xs acc (fun y hy => hx y (List.mem_cons_of_mem _ hy)) ?_
      rw [List.filter_cons, if_neg (by rw [e]; exact Bool.false_ne_true)] at h
      exact h
theorem seq {t u : TDs} {D : EndsD} {ε : Env} {st : Sto} (h : ∀ N : Env → Sto → Prop, (∀ ε s, u D ε s → N ε s) → t { D with nx := N } ε st) : qSeq t u D ε st := h _ fun _ _ x => x
/-- a for, its items known -/
theorem for_by {inv : Sto → Prop} {g : TDg} {tb : TDs} {D : EndsD} {xs : List DV} {ε : Env} {st : Sto} (W : List DV → Env → Sto → Prop) (h0 : W xs ε st) (hi : ∀ ys ε st, W ys ε st → inv st)
    (hs : ∀ x ys ε st, x ∈ xs → W (x :: ys) ε st → ∀ L : Env → Sto → Prop, (∀ ε' st', W ys ε' st' → L ε' st') → g x ε st fun ε1 s1 => tb { D with nx := L, ct := L, bk := D.nx } ε1 s1) (hd : ∀ ε st, W [] ε st → D.nx ε st) : qLoop inv g tb D xs ε st := by
  have : ∀ ys ε st, (∀ y ∈ ys, y ∈ xs) → W ys ε st → qLoop inv g tb D ys ε st := by
    intro ys
    induction ys with
    | nil => exact fun ε st _ h => ⟨hi _ _ _ h, hd _ _ h⟩
    | cons y ys ih => exact fun ε st hy h => ⟨hi _ _ _ h, hs y ys ε st (hy y List.mem_cons_self) h _ fun ε' st' => ih ε' st' fun z hz => hy z (List.mem_cons_of_mem _ hz)⟩
  exact this xs ε st (fun _ z => z) h0
end
end DL
end

section
set_option Elab.async false
set_option linter.all false
set_option maxRecDepth 100000
set_option maxHeartbeats 4000000
/-! sets of tuples in greater tables: the masks, the ways (my own; over what HandS.TupSets says of any mask) -/
namespace BS
open PySem L2
/-- the masks that come -/
def MaskB (m : Nat) : Prop := m = 7 ∨ m = 31 ∨ m = 127 ∨ m = 511 ∨ m = 2047 ∨ m = 8191
/-- the slots that n steps from i meet, as bits -/
def bitsOf (m : Nat) : Nat → Nat → Nat → Nat
  | 0, _, acc => acc
  | n + 1, i, acc => bitsOf m n ((i * 5 + 1) % (m + 1)) (acc ||| (1 <<< i))
theorem bitsOf_spec (m : Nat) : ∀ (n a acc j : Nat), (bitsOf m n (lcgN m a) acc).testBit j = true → acc.testBit j = true ∨ ∃ b, b < n ∧ lcgN m (a + b) = j
  | 0, _, _, _, h => .inl h
  | n + 1, a, acc, j, h => by
    rcases bitsOf_spec m n (a + 1) _ j h with h | ⟨b, hb, e⟩
    · rw [Nat.testBit_or, Bool.or_eq_true] at h
      rcases h with h | h
      · exact .inl h
      · refine .inr ⟨0, Nat.zero_lt_succ _, ?_⟩
        rw [Nat.shiftLeft_eq, Nat.one_mul, Nat.testBit_two_pow] at h
        exact of_decide_eq_true h
    · exact .inr ⟨b + 1, by omega, by rw [show a + (b + 1) = a + 1 + b by omega]; exact e⟩
theorem met {m : Nat} (h : bitsOf m (m + 1) 0 0 = 2 ^ (m + 1) - 1) {j : Nat} (hj : j ≤ m) : ∃ b, b ≤ m ∧ lcgN m b = j := by
  have e : (bitsOf m (m + 1) (lcgN m 0) 0).testBit j = true := by
    show (bitsOf m (m + 1) 0 0).testBit j = true
    rw [h, Nat.testBit_two_pow_sub_one]
    exact decide_eq_true (by omega)
  rcases bitsOf_spec m (m + 1) 0 0 j e with h | ⟨b, hb, e⟩
  · rw [Nat.zero_testBit] at h
    cases h
  · exact ⟨b, by omega, by rw [← e, Nat.zero_add]⟩
theorem all7 : bitsOf 7 8 0 0 = 2 ^ 8 - 1 := by decide +kernel
theorem all31 : bitsOf 31 32 0 0 = 2 ^ 32 - 1 := by decide +kernel
theorem all127 : bitsOf 127 128 0 0 = 2 ^ 128 - 1 := by decide +kernel
theorem all511 : bitsOf 511 512 0 0 = 2 ^ 512 - 1 := by decide +kernel
theorem all2047 : bitsOf 2047 2048 0 0 = 2 ^ 2048 - 1 := by decide +kernel
theorem all8191 : bitsOf 8191 8192 0 0 = 2 ^ 8192 - 1 := by decide +kernel
theorem lcg_met {m : Nat} (hm : MaskB m) {j : Nat} (hj : j ≤ m) : ∃ b, b ≤ m ∧ lcgN m b = j := by
  rcases hm with rfl | rfl | rfl | rfl | rfl | rfl
  · exact met all7 hj
  · exact met all31 hj
  · exact met all127 hj
  · exact met all511 hj
  · exact met all2047 hj
  · exact met all8191 hj
/-- the last step of a round, without the steps -/
def lastOf (m : Nat) : Nat → Nat → Nat
  | 0, i => i
  | n + 1, i => lastOf m n ((i * 5 + 1) % (m + 1))
theorem lastOf_spec (m : Nat) : ∀ (n a : Nat), lastOf m n (lcgN m a) = lcgN m (a + n)
  | 0, _ => rfl
  | n + 1, a => by
    have := lastOf_spec m n (a + 1)
    rw [show a + (n + 1) = a + 1 + n by omega]
    exact this
theorem round7 : lastOf 7 8 0 = 0 := by decide +kernel
theorem round31 : lastOf 31 32 0 = 0 := by decide +kernel
theorem round127 : lastOf 127 128 0 = 0 := by decide +kernel
theorem round511 : lastOf 511 512 0 = 0 := by decide +kernel
theorem round2047 : lastOf 2047 2048 0 = 0 := by decide +kernel
theorem round8191 : lastOf 8191 8192 0 = 0 := by decide +kernel
theorem lcg_again {m : Nat} (hm : MaskB m) : lcgN m (m + 1) = 0 := by
  have key : ∀ m, lastOf m (m + 1) 0 = 0 → lcgN m (m + 1) = 0 := fun m h => by
    have := lastOf_spec m (m + 1) 0
    rw [Nat.zero_add] at this
    rw [← this]
    exact h
  rcases hm with rfl | rfl | rfl | rfl | rfl | rfl
  · exact key _ round7
  · exact key _ round31
  · exact key _ round127
  · exact key _ round511
  · exact key _ round2047
  · exact key _ round8191
theorem lcg_per {m : Nat} (hm : MaskB m) (k : Nat) : lcgN m (m + 1 + k) = lcgN m k := by
  induction k with
  | zero => exact lcg_again hm
  | succ k ih =>
    show (lcgN m (m + 1 + k) * 5 + 1) % (m + 1) = _
    rw [ih]
    rfl
/-- each slot begins a run early enough -/
theorem run_met {m : Nat} (hm : MaskB m) (h : Int) {j : Nat} (hj : j ≤ m) : ∃ n, n ≤ m + 12 ∧ runI m (SetTable.bits h) n = j := by
  obtain ⟨a, ha, ea⟩ := lcg_met hm (runI_le m (SetTable.bits h) 12)
  obtain ⟨b, hb, eb⟩ := lcg_met hm hj
  have step : ∀ k, runI m (SetTable.bits h) (12 + k) = lcgN m (a + k) := fun k => by rw [runI_tail (bits_lt h), ← ea, lcgN_add]
  by_cases c : b < a
  · refine ⟨12 + (b + (m + 1) - a), by omega, ?_⟩
    rw [step, show a + (b + (m + 1) - a) = m + 1 + b by omega, lcg_per hm, eb]
  · refine ⟨12 + (b - a), by omega, ?_⟩
    rw [step, show a + (b - a) = b by omega, eb]
theorem way_met {m : Nat} (hm : MaskB m) (h : Int) {j : Nat} (hj : j ≤ m) : ∃ k, k < 10 * SetTable.turns m ∧ way m h k = j := by
  obtain ⟨n, hn, e⟩ := run_met hm h hj
  obtain ⟨k, hk, e2⟩ := run_nth m (SetTable.bits h) n
  refine ⟨k, by unfold SetTable.turns; omega, ?_⟩
  show (nth m (runAt m (SetTable.bits h % (m + 1)) (SetTable.bits h)) k).j = j
  rw [e2]
  exact e
theorem way_in (m : Nat) (h : Int) (k : Nat) : way m h k ≤ m := by
  have hi : SetTable.bits h % (m + 1) ≤ m := Nat.le_of_lt_succ (Nat.mod_lt _ (Nat.succ_pos _))
  have r := runEnd_bd hi
  have q := nth_in (m := m) k (runAt m (SetTable.bits h % (m + 1)) (SetTable.bits h)) (show SetTable.bits h % (m + 1) + (SetTable.runEnd m (SetTable.bits h % (m + 1)) - SetTable.bits h % (m + 1)) ≤ m by omega)
  show (nth m (runAt m (SetTable.bits h % (m + 1)) (SetTable.bits h)) k).j ≤ m
  omega
theorem odd {m : Nat} (h : MaskB m) : m % 2 = 1 := by
  rcases h with rfl | rfl | rfl | rfl | rfl | rfl <;> rfl
theorem turns_le {m : Nat} (h : MaskB m) : 10 * SetTable.turns m < 100000 := by
  unfold SetTable.turns
  rcases h with rfl | rfl | rfl | rfl | rfl | rfl <;> decide
end BS
end

section
set_option Elab.async false
set_option linter.all false
set_option maxRecDepth 100000
set_option maxHeartbeats 4000000
/-! the table's word, one put in, all laid anew -/
namespace BS
open PySem L2
/-- a table in which each hash is met on its way ahead of any empty slot -/
structure Tb (t : SetTable) (hs : List Int) : Prop where
  ris : L2.Ris t.place.toList
  dm : t.dummies = #[]
  sz : t.place.toList.length = hs.length
  mok : MaskB t.mask
  bd : ∀ x ∈ t.place.toList, x ≤ t.mask
  reach : ∀ (i : Nat) (h : Int) (j : Nat), hs[i]? = some h → t.place.toList[i]? = some j → ∃ k, way t.mask h k = j ∧ ∀ k', k' < k → way t.mask h k' ∈ t.place.toList
theorem Tb.first {t : SetTable} {hs : List Int} (T : Tb t hs) (hl : hs.length ≤ t.mask) (h : Int) : ∃ K, K < 10 * SetTable.turns t.mask ∧ way t.mask h K ∉ t.place.toList ∧ ∀ k, k < K → way t.mask h k ∈ t.place.toList := by
  obtain ⟨j, hj, hn⟩ := st_missing t.place.toList (t.mask + 1) (by rw [T.sz]; omega)
  obtain ⟨k, hk, rfl⟩ := way_met T.mok h (j := j) (by omega)
  obtain ⟨K, h1, h2, h3⟩ := st_least (p := fun k => way t.mask h k ∉ t.place.toList) k hn
  exact ⟨K, by omega, h2, fun k' hk' => Classical.byContradiction fun c => h3 k' hk' c⟩
theorem Tb.before {t : SetTable} {hs : List Int} (T : Tb t hs) {h : Int} {K i j : Nat} (hK : way t.mask h K ∉ t.place.toList) (hi : hs[i]? = some h) (hj : t.place.toList[i]? = some j) : ∃ k, k < K ∧ way t.mask h k = j := by
  obtain ⟨k, e, hb⟩ := T.reach i h j hi hj
  refine ⟨k, Classical.byContradiction fun c => ?_, e⟩
  by_cases d : K = k
  · subst d
    exact hK (e ▸ List.mem_of_getElem? hj)
  · exact hK (hb K (by omega))
theorem Tb.put {t : SetTable} {hs : List Int} (T : Tb t hs) {h : Int} {K : Nat} (hK : way t.mask h K ∉ t.place.toList) (hb : ∀ k, k < K → way t.mask h k ∈ t.place.toList) :
    SetTable.below t.place (way t.mask h K) ≤ hs.length ∧ Tb (t.put (way t.mask h K)).1 (hs.take (SetTable.below t.place (way t.mask h K)) ++ h :: hs.drop (SetTable.below t.place (way t.mask h K))) ∧ (t.put (way t.mask h K)).1.fill = hs.length + 1 := by
  have hjm := way_in t.mask h K
  generalize hj : way t.mask h K = j at *
  have hp : SetTable.below t.place j ≤ t.place.toList.length := by
    rw [Array.length_toList]
    exact (below_cut T.ris j).1
  have hph : SetTable.below t.place j ≤ hs.length := by rw [← T.sz]; exact hp
  have hpp := put_place t j
  have hlen : (t.put j).1.place.toList.length = hs.length + 1 := by rw [hpp, len_ins _ hp, T.sz]
  have up : ∀ {x : Nat}, x ∈ t.place.toList → x ∈ (t.put j).1.place.toList := fun hx => by
    rw [hpp]
    exact mem_ins.2 (.inr hx)
  refine ⟨hph, ⟨ris_insert T.ris fun e => hK (List.mem_of_getElem? (by rw [Array.getElem?_toList]; exact e)), put_dm T.dm j, ?_, T.mok, fun x hx => ?_, fun i h' j' h1 h2 => ?_⟩, ?_⟩
  · rw [hlen, len_ins _ hph]
  · rw [hpp] at hx
    rcases mem_ins.1 hx with rfl | z
    · exact hjm
    · exact T.bd x z
  · rw [tins_get hs hph] at h1
    rw [hpp, tins_get _ hp] at h2
    show ∃ k, way t.mask h' k = j' ∧ ∀ k', k' < k → way t.mask h' k' ∈ (t.put j).1.place.toList
    have old : ∀ i', hs[i']? = some h' → t.place.toList[i']? = some j' → ∃ k, way t.mask h' k = j' ∧ ∀ k', k' < k → way t.mask h' k' ∈ (t.put j).1.place.toList := fun i' a b => by
      obtain ⟨k, e, z⟩ := T.reach i' h' j' a b
      exact ⟨k, e, fun k' hk' => up (z k' hk')⟩
    by_cases c : i < SetTable.below t.place j
    · rw [if_pos c] at h1 h2
      exact old i h1 h2
    · rw [if_neg c] at h1 h2
      by_cases d : i = SetTable.below t.place j
      · rw [if_pos d] at h1 h2
        cases h1
        cases h2
        exact ⟨K, hj, fun k' hk' => up (hb k' hk')⟩
      · rw [if_neg d] at h1 h2
        exact old (i - 1) h1 h2
  · show (t.put j).1.place.size + (t.put j).1.dummies.size = hs.length + 1
    rw [← Array.length_toList, hlen, put_dm T.dm j]
    rfl
/-! laid anew -/
theorem free_at {m : Nat} (hm : MaskB m) (owner : Array (Option Nat)) (h : Int) {j : Nat} (hj : j ≤ m) (hf : oAt owner j = none) :
    ∃ K, SetTable.layClean.free m owner (SetTable.turns m) (SetTable.bits h % (m + 1)) (SetTable.bits h) = some (way m h K) ∧ oAt owner (way m h K) = none ∧ ∀ k, k < K → oAt owner (way m h k) ≠ none := by
  obtain ⟨n, hn, e⟩ := run_met hm h hj
  have hw : way m h (off m (SetTable.bits h % (m + 1)) (SetTable.bits h) n) = j := by
    show (nth m (runAt m (SetTable.bits h % (m + 1)) (SetTable.bits h)) _).j = j
    rw [nth_off, itL_run]
    exact e
  obtain ⟨K, k1, k2, k3⟩ := st_least (p := fun k => oAt owner (way m h k) = none) _ (show oAt owner (way m h (off m (SetTable.bits h % (m + 1)) (SetTable.bits h) n)) = none by rw [hw]; exact hf)
  refine ⟨K, free_spec m owner (SetTable.turns m) n _ _ K (by unfold SetTable.turns; omega) k1 (fun k hk => ?_) ?_, k2, k3⟩
  · cases z : oAt owner (nth m (runAt m (SetTable.bits h % (m + 1)) (SetTable.bits h)) k).j with
    | none => exact absurd z (k3 k hk)
    | some _ => rfl
  · show (oAt owner (way m h K)).isNone = true
    rw [k2]
    rfl
theorem own_step {m : Nat} (hm : MaskB m) {done : List Int} {owner : Array (Option Nat)} (W : Own m done owner) (hl : done.length ≤ m) (h : Int) :
    ∃ j, SetTable.layClean.free m owner (SetTable.turns m) (SetTable.bits h % (m + 1)) (SetTable.bits h) = some j ∧ Own m (done ++ [h]) (owner.setIfInBounds j (some done.length)) := by
  obtain ⟨ps, hps, hin⟩ := W.ps
  obtain ⟨j0, h0, hn0⟩ := st_missing ps (m + 1) (by omega)
  have hj0 : oAt owner j0 = none := Classical.byContradiction fun z => hn0 (hin j0 (by omega) z)
  obtain ⟨K, e1, e2, e3⟩ := free_at hm owner h (show j0 ≤ m by omega) hj0
  have hjm := way_in m h K
  refine ⟨way m h K, e1, ?_⟩
  generalize hw : way m h K = x at *
  have hself : oAt (owner.setIfInBounds x (some done.length)) x = some done.length := oAt_set_self _ (by rw [W.sz]; omega)
  have keep : ∀ {i : Nat}, i ≠ x → oAt (owner.setIfInBounds x (some done.length)) i = oAt owner i := fun c => oAt_set_ne _ c
  have mono : ∀ {i : Nat}, oAt owner i ≠ none → oAt (owner.setIfInBounds x (some done.length)) i ≠ none := fun {i} hi => by
    by_cases c : i = x
    · rw [c, hself]; exact nofun
    · rw [keep c]; exact hi
  refine ⟨by rw [Array.size_setIfInBounds]; exact W.sz, fun j k hj e => ?_, fun k hk => ?_, ⟨x :: ps, by simp [hps], fun j hj e => ?_⟩⟩
  · by_cases c : j = x
    · rw [c, hself] at e
      cases e
      exact ⟨h, K, by simp, by rw [hw, c], fun k' hk' => mono (e3 k' hk')⟩
    · rw [keep c] at e
      obtain ⟨h', K', a1, a2, a3⟩ := W.at_ j k hj e
      refine ⟨h', K', ?_, a2, fun k' hk' => mono (a3 k' hk')⟩
      rw [List.getElem?_append_left (List.getElem?_eq_some_iff.mp a1).1]
      exact a1
  · rw [List.length_append, List.length_singleton] at hk
    by_cases c : k < done.length
    · obtain ⟨j, hj, e⟩ := W.all k c
      exact ⟨j, hj, by rw [keep (fun z => by rw [z, e2] at e; cases e)]; exact e⟩
    · rw [show k = done.length by omega]
      exact ⟨x, hjm, hself⟩
  · by_cases c : j = x
    · rw [c]; exact List.mem_cons_self
    · rw [keep c] at e
      exact List.mem_cons_of_mem _ (hin j hj e)
theorem own_all {m : Nat} (hm : MaskB m) : ∀ (rest done : List Int) (owner : Array (Option Nat)), Own m done owner → done.length + rest.length ≤ m →
    ∃ owner', rest.foldl (stepF m) (some (owner, done.length)) = some (owner', (done ++ rest).length) ∧ Own m (done ++ rest) owner'
  | [], done, owner, W, _ => ⟨owner, by simp, by simpa using W⟩
  | h :: rest, done, owner, W, hl => by
    rw [List.length_cons] at hl
    obtain ⟨j, e, W'⟩ := own_step hm W (by omega) h
    obtain ⟨owner', f, W2⟩ := own_all hm rest (done ++ [h]) _ W' (by simp; omega)
    refine ⟨owner', ?_, by simpa using W2⟩
    rw [List.foldl_cons, stepF_some e]
    simpa using f
theorem clean_ok {m : Nat} (hm : MaskB m) {hs : Array Int} (hn : hs.size ≤ m) : ∃ owner, SetTable.layClean m hs = some owner ∧ Own m hs.toList owner := by
  obtain ⟨owner, f, W⟩ := own_all hm hs.toList [] _ (Own.init m) (by simpa using hn)
  refine ⟨owner, ?_, by simpa using W⟩
  rw [layClean_eq]
  have f' : hs.toList.foldl (stepF m) (some (Array.replicate (m + 1) none, 0)) = some (owner, ([] ++ hs.toList).length) := f
  rw [f']
  rfl
theorem relaid_as (t : SetTable) {hs : Array Int} {wanted M : Nat} (hw : SetTable.sizeAbove wanted - 1 = M) (hM : MaskB M) (hn : hs.size ≤ M) :
    ∃ t' order, t.relaid hs wanted = some (t', order) ∧ order.toList.Perm (List.range hs.size) ∧ Tb t' (order.toList.map fun i => hs.getD i 0) ∧ t'.mask = M ∧ t'.led = t.led ∧ t'.plain = t.plain := by
  obtain ⟨owner, e, W⟩ := clean_ok hM hn
  have hz : hs.toList.length = hs.size := rfl
  obtain ⟨r1, r2⟩ : L2.Ris ((liveOf M owner).map (·.1)) ∧ ∀ x ∈ (liveOf M owner).map (·.1), x ∈ List.range (M + 1) := ris_live (fun j => owner.getD j none) (List.range (M + 1)) (by
    unfold L2.Ris
    first | exact List.pairwise_lt_range | exact List.pairwise_lt_range _)
  have nd : ((liveOf M owner).map (·.1)).Nodup := List.Pairwise.imp (fun h => Nat.ne_of_lt h) r1
  have hlen : (liveOf M owner).length = hs.size := by
    obtain ⟨ps, p1, p2⟩ := W.ps
    have a := nat_nodup_len _ ps nd fun x hx => by
      obtain ⟨⟨y, k⟩, hq, rfl⟩ := List.mem_map.mp hx
      obtain ⟨b1, b2⟩ := (mem_live W.sz).1 hq
      exact p2 y b1 (by rw [b2]; exact nofun)
    have b := nat_nodup_len (List.range hs.size) ((liveOf M owner).map (·.2)) List.nodup_range fun k hk => by
      obtain ⟨j, b1, b2⟩ := W.all k (List.mem_range.mp hk)
      exact List.mem_map.mpr ⟨(j, k), (mem_live W.sz).2 ⟨b1, b2⟩, rfl⟩
    rw [List.length_map, p1] at a
    rw [List.length_map, List.length_range] at b
    omega
  refine ⟨tabOf t M owner, ((liveOf M owner).map (·.2)).toArray, by rw [relaid_eq, hw, e]; rfl, perm_range hs.size _ (by show ((liveOf M owner).map (·.2)).length = _; rw [List.length_map]; exact hlen) fun k hk => ?_, ⟨r1, rfl, ?_, hM, fun x hx => ?_, fun i h j h1 h2 => ?_⟩, rfl, rfl, rfl⟩
  · obtain ⟨j, b1, b2⟩ := W.all k hk
    exact List.mem_map.mpr ⟨(j, k), (mem_live W.sz).2 ⟨b1, b2⟩, rfl⟩
  · show ((liveOf M owner).map (·.1)).length = (((liveOf M owner).map (·.2)).map fun i => hs.getD i 0).length
    simp
  · have := List.mem_range.mp (r2 x hx)
    show x ≤ M
    omega
  · have h1' : (((liveOf M owner).map (·.2)).map fun i => hs.getD i 0)[i]? = some h := h1
    have h2' : ((liveOf M owner).map (·.1))[i]? = some j := h2
    rw [List.getElem?_map, List.getElem?_map] at h1'
    rw [List.getElem?_map] at h2'
    cases hq : (liveOf M owner)[i]? with
    | none => rw [hq] at h2'; cases h2'
    | some q =>
      obtain ⟨y, k⟩ := q
      rw [hq] at h1' h2'
      cases h2'
      have eh : hs.getD k 0 = h := Option.some.inj h1'
      obtain ⟨b1, b2⟩ := (mem_live W.sz).1 (List.mem_of_getElem? hq)
      obtain ⟨h0, K, a1, a2, a3⟩ := W.at_ y k b1 b2
      have e0 : hs.getD k 0 = h0 := by
        rw [Array.getD_eq_getD_getElem?, ← Array.getElem?_toList, a1]
        rfl
      rw [e0] at eh
      subst eh
      refine ⟨K, a2, fun k' hk' => ?_⟩
      show way M h0 k' ∈ (liveOf M owner).map (·.1)
      cases z : oAt owner (way M h0 k') with
      | none => exact absurd z (a3 k' hk')
      | some k2 => exact List.mem_map.mpr ⟨(way M h0 k', k2), (mem_live W.sz).2 ⟨way_in M h0 k', z⟩, rfl⟩
theorem size_5 : SetTable.sizeAbove (SetTable.grown 5) = 32 := by decide +kernel
theorem size_19 : SetTable.sizeAbove (SetTable.grown 19) = 128 := by decide +kernel
theorem size_77 : SetTable.sizeAbove (SetTable.grown 77) = 512 := by decide +kernel
theorem size_307 : SetTable.sizeAbove (SetTable.grown 307) = 2048 := by decide +kernel
theorem size_1229 : SetTable.sizeAbove (SetTable.grown 1229) = 8192 := by decide +kernel
end BS
end

section
set_option Elab.async false
set_option linter.all false
set_option maxRecDepth 100000
set_option maxHeartbeats 4000000
/-! the set of tuples: search, add -/
namespace BS
open PySem PySem.Spec L2 PyProof.Rows
section
variable {P : Program} {w : World} {A : Around} {E : Value → Shared → Prop} {s : Shared}
structure SetB (P : Program) (w : World) (h : Heap) (a : Addr) (L : List (Addr × List Int)) (es : Array (Int × Value)) (ep : Nat) (t : SetTable) : Prop where
  ob : ∃ o, h.get? a = some o ∧ o.ExactSet ∧ o.data = .set es ep t
  rows : es.toList = rowsOf P w L
  tab : Tb t (L.map fun p => thash P w p.2)
  nd : (L.map (·.2)).Nodup
  tup : ∀ p ∈ L, IsT P w h p.2 p.1
  plain : t.plain = true
  led : w.params.followText "set-order" = true ∨ t.led = true
  room : L.length * 5 < t.mask * 3
variable {a : Addr} {L : List (Addr × List Int)} {es : Array (Int × Value)} {ep : Nat} {t : SetTable}
theorem rows_len {es : Array (Int × Value)} (h : es.toList = rowsOf P w L) : es.size = L.length := by
  have := congrArg List.length h
  simpa [rowsOf] using this
theorem fits_of {t : SetTable} {n : Nat} (h1 : t.place.toList.length = n) (h2 : t.dummies = #[]) (h3 : n ≤ t.mask) : t.fits n = true := by
  unfold SetTable.fits SetTable.fill
  rw [h2, Bool.and_eq_true, beq_iff_eq, decide_eq_true_eq, ← Array.length_toList, h1]
  exact ⟨rfl, h3⟩
theorem SetB.sz (R : SetB P w s.heap a L es ep t) : t.place.toList.length = L.length := by
  rw [R.tab.sz, List.length_map]
theorem SetB.fits (R : SetB P w s.heap a L es ep t) : t.fits es.size = true := by
  have := R.room
  exact fits_of (by rw [R.sz, rows_len R.rows]) R.tab.dm (by rw [rows_len R.rows]; omega)
theorem SetB.entry (R : SetB P w s.heap a L es ep t) {i : Nat} {p : Addr × List Int} (h : L[i]? = some p) : es[i]? = some (thash P w p.2, Value.ref p.1) := by
  rw [← Array.getElem?_toList, R.rows]
  unfold rowsOf
  rw [List.getElem?_map, h]
  rfl
theorem SetB.gw (R : SetB P w s.heap a L es ep t) : ¬ t.gaveWay = true := by
  unfold SetTable.gaveWay
  rw [odd R.tab.mok]
  decide
theorem nth_dummy (m : Nat) : ∀ (n : Nat) (p : SetTable.Probe), p.dummy = none → (nth m p n).dummy = none
  | 0, _, h => h
  | n + 1, p, h => nth_dummy m n (adv m p) (by unfold adv; split <;> exact h)
/-- the way's c-th state -/
abbrev stt (m : Nat) (h : Int) (c : Nat) : SetTable.Probe := nth m (runAt m (SetTable.bits h % (m + 1)) (SetTable.bits h)) c
theorem stt_add (m : Nat) (h : Int) (c q : Nat) : nth m (stt m h c) q = stt m h (c + q) := (nth_add m c _ q).symm
theorem stt_j (m : Nat) (h : Int) (c q : Nat) : (nth m (stt m h c) q).j = way m h (c + q) := congrArg SetTable.Probe.j (stt_add m h c q)
/-- the search, from the c-th state on -/
theorem seek (R : SetB P w s.heap a L es ep t) {x : Addr} {k : List Int} (hx : IsT P w s.heap k x) (hu : A.units < cLine) {K : Nat} (hKf : K < 10 * SetTable.turns t.mask)
    (hK : way t.mask (thash P w k) K ∉ t.place.toList) (hKb : ∀ c, c < K → way t.mask (thash P w k) c ∈ t.place.toList) {Q : SetFound → Shared → Prop}
    (hin : k ∈ L.map (·.2) → Q (.there none) s) (hout : k ∉ L.map (·.2) → Q (.free (way t.mask (thash P w k) K) false) s) :
    ∀ (f c : Nat) (stand : Option SetTable.Probe), stand.getD (t.probeStart (thash P w k)) = stt t.mask (thash P w k) c → c ≤ K → K - c < f →
      (∀ (i : Nat) p, L[i]? = some p → p.2 = k → ∃ c', c ≤ c' ∧ c' < K ∧ t.place.toList[i]? = some (way t.mask (thash P w k) c')) →
      wpAny (model P w) A (setSearchFrom a (.ref x) (thash P w k) true f stand) Q E s := by
  intro f
  induction f with
  | zero => intro c stand _ _ hf; exact absurd hf (Nat.not_lt_zero _)
  | succ f ih =>
  intro c stand hst hc hf hre
  obtain ⟨o, ho, hex, hd⟩ := R.ob
  rw [setSearchFrom_succ]
  refine wpAny_bind (wpAny_setState_of ho hd R.fits ?_)
  dsimp only
  refine wp_if_neg R.gw ?_
  try refine wpAny_bind (wpAny_pure ?_)
  have ha : ∀ (i : Nat) p, L[i]? = some p → (fun i => (es[i]?.map (·.1)).getD 0) i = thash P w p.2 := fun i p hp => by
    show (es[i]?.map (·.1)).getD 0 = _
    rw [R.entry hp]
    rfl
  rcases go_spec t R.tab.ris R.tab.dm (fun i => (es[i]?.map (·.1)).getD 0) (thash P w k) (10 * SetTable.turns t.mask) (K - c) _ (nth_dummy t.mask c _ rfl) (by omega)
      (fun q hq => by rw [stt_j]; exact hKb (c + q) (by omega)) (by rw [stt_j, show c + (K - c) = K by omega]; exact hK) with ⟨q, i, hq, hi, hh, hno, hpr⟩ | ⟨hno, hpr⟩
  · have hpr' : t.probe (fun i => (es[i]?.map (·.1)).getD 0) (thash P w k) (stand.getD (t.probeStart (thash P w k))) = some (.candidate (way t.mask (thash P w k) (c + q)) i (stt t.mask (thash P w k) (c + (q + 1)))) := by
      rw [hst, ← stt_j, ← stt_add]
      exact hpr
    rw [hpr']
    dsimp only
    rw [stt_j] at hi
    have hil : i < L.length := by
      rw [← R.sz]
      exact (List.getElem?_eq_some_iff.mp hi).1
    have hp : L[i]? = some L[i] := List.getElem?_eq_getElem hil
    generalize hpe : L[i] = p at hp
    have hmem : p ∈ L := List.mem_of_getElem? hp
    have rest : wpAny (model P w) A (searchRest a (.ref x) (thash P w k) true f es t (way t.mask (thash P w k) (c + q)) i (stt t.mask (thash P w k) (c + (q + 1)))) Q E s := by
      unfold searchRest
      rw [R.entry hp]
      dsimp only
      refine wpAny_bind (wpAny_holding (wpAny_eqBool_tuple hu (R.tup p hmem) hx ?_))
      refine wpAny_bind (wpAny_setState_of ho hd R.fits ?_)
      dsimp only
      by_cases hkk : p.2 = k
      · refine wp_if_pos (by simp [hkk]) ?_
        exact wpAny_pure (hin (List.mem_map.mpr ⟨p, hmem, hkk⟩))
      · refine wp_if_neg (by simp [hkk]) ?_
        try refine wpAny_bind (wpAny_pure ?_)
        rw [sameMem]
        dsimp only
        have hsl : t.slot (way t.mask (thash P w k) (c + q)) = .live i := slot_live R.tab.ris hi
        simp only [if_true, hsl, R.entry hp]
        refine wpAny_bind (wpAny_isSame_ref_self (wpAny_bind (wpAny_pure ?_)))
        simp only [if_true]
        refine wp_if_neg (by simp [hkk]) ?_
        refine ih (c + (q + 1)) _ rfl (by omega) (by omega) fun i0 p0 h0 hk0 => ?_
        obtain ⟨c', a1, a2, a3⟩ := hre i0 p0 h0 hk0
        refine ⟨c', Classical.byContradiction fun z => ?_, a2, a3⟩
        by_cases y : c' = c + q
        · subst y
          have s0 := slot_live R.tab.ris a3
          rw [hsl] at s0
          injection s0 with s0
          subst s0
          rw [hp] at h0
          cases h0
          exact hkk hk0
        · refine hno (c' - c) i0 (by omega) (by rw [stt_j, show c + (c' - c) = c' by omega]; exact a3) ?_
          exact (ha i0 p0 h0).trans (congrArg (thash P w) hk0)
    by_cases hl : t.led = true
    · refine wp_if_neg (by simp [hl]) ?_
      try refine wpAny_bind (wpAny_pure ?_)
      exact rest
    · refine wp_if_pos (by simp [hl]) ?_
      refine wpAny_bind (seen_tup hx (fun y hy => ?_) ?_)
      · obtain ⟨e, he, ee⟩ := List.mem_map.mp hy
        have he1 : e ∈ es ∧ e.1 = thash P w k := by simpa using he
        have he2 : e ∈ es.toList := by simpa using he1.1
        rw [R.rows] at he2
        obtain ⟨p2, hp2, e2⟩ := List.mem_map.mp he2
        exact ⟨p2.2, p2.1, by rw [← ee, ← e2], R.tup p2 hp2⟩
      · refine wp_if_neg (by decide) ?_
        try refine wpAny_bind (wpAny_pure ?_)
        exact rest
  · have hpr' : t.probe (fun i => (es[i]?.map (·.1)).getD 0) (thash P w k) (stand.getD (t.probeStart (thash P w k))) = some (.empty (way t.mask (thash P w k) K) none) := by
      have e2 : way t.mask (thash P w k) K = (nth t.mask (stt t.mask (thash P w k) c) (K - c)).j := by rw [stt_j, show c + (K - c) = K by omega]
      rw [hst, e2]
      exact hpr
    rw [hpr']
    dsimp only
    refine wpAny_pure (hout fun hm => ?_)
    obtain ⟨p0, h0, hk0⟩ := List.mem_map.mp hm
    obtain ⟨i0, h00⟩ := List.mem_iff_getElem?.mp h0
    obtain ⟨c', a1, a2, a3⟩ := hre i0 p0 h00 hk0
    exact hno (c' - c) i0 (by omega) (by rw [stt_j, show c + (c' - c) = c' by omega]; exact a3) ((ha i0 p0 h00).trans (congrArg (thash P w) hk0))
theorem seek_add (R : SetB P w s.heap a L es ep t) {x : Addr} {k : List Int} (hx : IsT P w s.heap k x) (hu : A.units < cLine) {Q : SetFound → Shared → Prop}
    (hin : k ∈ L.map (·.2) → Q (.there none) s)
    (hout : ∀ K, k ∉ L.map (·.2) → way t.mask (thash P w k) K ∉ t.place.toList → (∀ c, c < K → way t.mask (thash P w k) c ∈ t.place.toList) → Q (.free (way t.mask (thash P w k) K) false) s) :
    wpAny (model P w) A (setSearch a (.ref x) (thash P w k) true) Q E s := by
  have hroom := R.room
  obtain ⟨K, hKf, hK, hKb⟩ := R.tab.first (by rw [List.length_map]; omega) (thash P w k)
  have hbig := turns_le R.tab.mok
  unfold setSearch
  refine seek R hx hu hKf hK hKb hin (fun hn => hout K hn hK hKb) 100000 0 none rfl (Nat.zero_le _) (by omega) fun i p hp hk => ?_
  have hi : (L.map fun p => thash P w p.2)[i]? = some (thash P w k) := by rw [List.getElem?_map, hp, ← hk]; rfl
  have hil : i < t.place.toList.length := by
    rw [R.sz]
    exact (List.getElem?_eq_some_iff.mp hp).1
  have hj := List.getElem?_eq_getElem hil
  obtain ⟨c, hc, e⟩ := R.tab.before hK hi hj
  exact ⟨c, Nat.zero_le _, hc, by rw [hj, e]⟩
end
end BS
end

section
set_option Elab.async false
set_option linter.all false
set_option maxRecDepth 100000
set_option maxHeartbeats 4000000
/-! the set of tuples: laid anew, one added -/
namespace BS
open PySem PySem.Spec L2 PyProof.Rows
section
variable {P : Program} {w : World} {A : Around} {E : Value → Shared → Prop} {s : Shared} {a : Addr} {L : List (Addr × List Int)} {es : Array (Int × Value)} {ep : Nat} {t : SetTable}
theorem lay {o : Obj} (ho : s.heap.get? a = some o) (hex : o.ExactSet) (hd : o.data = .set es ep t) (hrows : es.toList = rowsOf P w L) (T0 : Tb t (L.map fun p => thash P w p.2)) (hfl : L.length ≤ t.mask)
    (nd : (L.map (·.2)).Nodup) (tup : ∀ p ∈ L, IsT P w s.heap p.2 p.1) (pl : t.plain = true) (ld : w.params.followText "set-order" = true ∨ t.led = true) {wanted M : Nat}
    (hw : SetTable.sizeAbove wanted - 1 = M) (hM : MaskB M) (hw2 : SetTable.sizeAbove wanted ≤ 8192) (hn : L.length * 5 < M * 3) {Q : Unit → Shared → Prop}
    (hQ : ∀ h' L' es' ep' t', Heap.SameBut a s.heap h' → SetB P w h' a L' es' ep' t' → L'.Perm L → Q () { s with heap := h' }) : wpAny (model P w) A (setRelay a wanted) Q E s := by
  have hsl := rows_len hrows
  have hfits : t.fits es.size = true := fits_of (by rw [T0.sz, List.length_map, hsl]) T0.dm (by rw [hsl]; exact hfl)
  obtain ⟨t', order, e, hp, T, em, el, epl⟩ := relaid_as t (hs := es.map (·.1)) (wanted := wanted) hw hM (by rw [Array.size_map, hsl]; omega)
  rw [Array.size_map, hsl] at hp
  obtain ⟨L2, r1, r2, r3⟩ := order_rows L es order hrows hp
  rw [← r3] at T
  have hs2 : (order.filterMap (es[·]?)).size = es.size := by rw [rows_len r1, r2.length_eq, hsl]
  have hM2 : L.length < 8192 := by
    rcases hM with rfl | rfl | rfl | rfl | rfl | rfl <;> omega
  rw [setRelay_eq]
  refine wpAny_bind (wpAny_setState_of ho hd hfits ?_)
  dsimp only
  refine wp_if_neg (by rw [sizeLine_eq]; omega) ?_
  try refine wpAny_bind (wpAny_pure ?_)
  rw [e]
  dsimp only
  refine wpAny_bind ?_
  refine wp_if_neg (by rw [hs2]; simp) ?_
  try refine wpAny_bind (wpAny_pure ?_)
  refine wpAny_pure ?_
  dsimp only
  refine wpAny_storeSet_of ho hd ?_ (by rw [hs2, hsl, sizeLine_eq]; omega)
  have sb : Heap.SameBut a s.heap (s.heap.update a (Obj.putSet (order.filterMap (es[·]?)) t')) := Heap.SameBut.update ..
  exact hQ _ L2 (order.filterMap (es[·]?)) (ep + 1) t' sb ⟨⟨_, store_at ho hd, ⟨hex.1, hex.2.1, hex.2.2⟩, rfl⟩, r1, T, (r2.map (·.2)).nodup_iff.mpr nd, fun p hpm => isT_same (tup p (r2.mem_iff.mp hpm)) ho hd sb, by rw [epl]; exact pl, by rw [el]; exact ld, by rw [r2.length_eq, em]; exact hn⟩ r2
/-- when a table is too full, the next is -/
theorem next_mask {m n : Nat} (hm : MaskB m) (hroom : n * 5 < m * 3) (hfull : (n + 1) * 5 ≥ m * 3) (hn : n < 4000) :
    ∃ M, SetTable.sizeAbove (SetTable.grown (n + 1)) - 1 = M ∧ MaskB M ∧ SetTable.sizeAbove (SetTable.grown (n + 1)) ≤ 8192 ∧ (n + 1) * 5 < M * 3 := by
  have key : ∀ (c S : Nat), n + 1 = c → SetTable.sizeAbove (SetTable.grown c) = S → MaskB (S - 1) → S ≤ 8192 → c * 5 < (S - 1) * 3 → ∃ M, SetTable.sizeAbove (SetTable.grown (n + 1)) - 1 = M ∧ MaskB M ∧ SetTable.sizeAbove (SetTable.grown (n + 1)) ≤ 8192 ∧ (n + 1) * 5 < M * 3 := by
    intro c S h1 h2 h3 h4 h5
    subst h1
    exact ⟨S - 1, by rw [h2], h3, by rw [h2]; exact h4, h5⟩
  rcases hm with rfl | rfl | rfl | rfl | rfl | rfl
  · exact key 5 32 (by omega) size_5 (.inr (.inl rfl)) (by decide) (by decide)
  · exact key 19 128 (by omega) size_19 (.inr (.inr (.inl rfl))) (by decide) (by decide)
  · exact key 77 512 (by omega) size_77 (.inr (.inr (.inr (.inl rfl)))) (by decide) (by decide)
  · exact key 307 2048 (by omega) size_307 (.inr (.inr (.inr (.inr (.inl rfl))))) (by decide) (by decide)
  · exact key 1229 8192 (by omega) size_1229 (.inr (.inr (.inr (.inr (.inr rfl))))) (by decide) (by decide)
  · omega
theorem add (R : SetB P w s.heap a L es ep t) {x : Addr} {k : List Int} (hx : IsT P w s.heap k x) (hu : A.units < cLine) (hfew : L.length < 4000) {Q : Bool → Shared → Prop}
    (hQ : ∀ b h' L' es' ep' t', Heap.SameBut a s.heap h' → SetB P w h' a L' es' ep' t' → (k ∈ L.map (·.2) → L' = L) → (k ∉ L.map (·.2) → L'.Perm ((x, k) :: L)) → Q b { s with heap := h' }) :
    wpAny (model P w) A (setAddHashed a (.ref x) (thash P w k)) Q E s := by
  obtain ⟨o, ho, hex, hd⟩ := R.ob
  have hsl := rows_len R.rows
  have hroom := R.room
  unfold setAddHashed
  refine wpAny_holding ?_
  rw [show (100000 : Nat) = 99999 + 1 from rfl, setAddHashedIn_succ]
  refine wpAny_bind (wpAny_setState_of ho hd R.fits ?_)
  dsimp only
  refine wp_if_neg (by simp [byScan, Value.scannable]) ?_
  try refine wpAny_bind (wpAny_pure ?_)
  refine wpAny_bind (seek_add R hx hu (fun hm => ?_) fun K hm hK hb => ?_)
  · dsimp only
    exact wpAny_pure (hQ false s.heap L es ep t (Heap.SameBut.refl a s.heap) R (fun _ => rfl) fun z => absurd hm z)
  · dsimp only
    refine wpAny_bind (wpAny_setState_of ho hd R.fits ?_)
    dsimp only
    obtain ⟨q2, q3, q9⟩ := R.tab.put hK hb
    have q1 : (t.put (way t.mask (thash P w k) K)).2 = SetTable.below t.place (way t.mask (thash P w k) K) := rfl
    have q4 : (t.put (way t.mask (thash P w k) K)).1.mask = t.mask := rfl
    have q5 : (t.put (way t.mask (thash P w k) K)).1.led = t.led := rfl
    have hp1 : (t.put (way t.mask (thash P w k) K)).1.plain = true := R.plain
    generalize hpt : t.put (way t.mask (thash P w k) K) = pt at q1 q3 q4 q5 q9 hp1 ⊢
    obtain ⟨t1, p⟩ := pt
    dsimp only at q1 q3 q4 q5 q9 hp1 ⊢
    subst q1
    first
      | (refine wpAny_bind ?_; refine wp_if_pos hp1 ?_; refine hashBy_tup hx ?_)
      | refine wp_if_pos hp1 (wpAny_bind (hashBy_tup hx ?_))
    simp only [if_true]
    have hin : (SetTable.insertAt es (SetTable.below t.place (way t.mask (thash P w k) K)) (thash P w k, Value.ref x)).toList = rowsOf P w (L.take (SetTable.below t.place (way t.mask (thash P w k) K)) ++ (x, k) :: L.drop (SetTable.below t.place (way t.mask (thash P w k) K))) := by
      rw [SetTable.toList_insertAt, rows_put, R.rows]
    generalize SetTable.below t.place (way t.mask (thash P w k) K) = p at q2 q3 hin ⊢
    have pm := put_perm L p (x, k)
    have hlen : (L.take p ++ (x, k) :: L.drop p).length = L.length + 1 := pm.length_eq
    have hhs : (L.take p ++ (x, k) :: L.drop p).map (fun p => thash P w p.2) = (L.map fun p => thash P w p.2).take p ++ thash P w k :: (L.map fun p => thash P w p.2).drop p := by
      rw [List.map_append, List.map_cons, List.map_take, List.map_drop]
    rw [← hhs] at q3
    have nd1 : ((L.take p ++ (x, k) :: L.drop p).map (·.2)).Nodup := by
      refine (pm.map (·.2)).nodup_iff.mpr ?_
      rw [List.map_cons]
      exact List.nodup_cons.mpr ⟨hm, R.nd⟩
    have hes := rows_len hin
    rw [hlen] at hes
    generalize SetTable.insertAt es p (thash P w k, Value.ref x) = es1 at hin hes ⊢
    generalize L.take p ++ (x, k) :: L.drop p = L1 at pm hlen q3 nd1 hin
    refine wpAny_bind (wpAny_storeSet_of ho hd ?_ (by rw [hes, sizeLine_eq]; omega))
    have sb : Heap.SameBut a s.heap (s.heap.update a (Obj.putSet es1 t1)) := Heap.SameBut.update ..
    have ho1 := store_at (es' := es1) (t' := t1) ho hd
    generalize s.heap.update a (Obj.putSet es1 t1) = h1 at sb ho1 ⊢
    have tup1 : ∀ p ∈ L1, IsT P w h1 p.2 p.1 := fun p hp => by
      rcases List.mem_cons.mp (pm.mem_iff.mp hp) with e | hp
      · rw [e]; exact isT_same hx ho hd sb
      · exact isT_same (R.tup p hp) ho hd sb
    have ld1 : w.params.followText "set-order" = true ∨ t1.led = true := by rw [q5]; exact R.led
    rw [List.length_map] at q9
    by_cases hf : t1.tooFull = true
    · first
        | (refine wpAny_bind ?_; refine wp_if_pos (by simp [hf]) ?_)
        | (refine wp_if_pos (by simp [hf]) ?_; refine wpAny_bind ?_)
      have hfull : (L.length + 1) * 5 ≥ t.mask * 3 := by
        have h := hf
        unfold SetTable.tooFull at h
        rw [decide_eq_true_eq, q9, q4] at h
        exact h
      rw [hsl]
      obtain ⟨M, m1, m2, m3, m4⟩ := next_mask R.tab.mok hroom hfull hfew
      have hmk : 7 ≤ t.mask := by rcases R.tab.mok with e | e | e | e | e | e <;> omega
      refine lay (s := { s with heap := h1 }) ho1 ⟨hex.1, hex.2.1, hex.2.2⟩ rfl hin q3 (by rw [hlen, q4]; omega) nd1 tup1 hp1 ld1 m1 m2 m3 (by rw [hlen]; exact m4) ?_
      intro h2 L2 es2 ep2 t2 sb2 R2 pm2
      exact wpAny_pure (hQ true h2 L2 es2 ep2 t2 (sb.trans sb2) R2 (fun z => absurd z hm) fun _ => pm2.trans pm)
    · first
        | refine wp_if_neg (by simp [hf]) ?_
        | (refine wpAny_bind ?_; refine wp_if_neg (by simp [hf]) ?_; refine wpAny_pure ?_)
      refine wpAny_pure (hQ true h1 L1 es1 (ep + 1) t1 sb ⟨⟨_, ho1, ⟨hex.1, hex.2.1, hex.2.2⟩, rfl⟩, hin, q3, nd1, tup1, hp1, ld1, ?_⟩ (fun z => absurd z hm) fun _ => pm)
      have h := hf
      unfold SetTable.tooFull at h
      rw [decide_eq_true_eq, q9] at h
      rw [hlen]
      omega
end
end BS
end

section
set_option Elab.async false
set_option linter.all false
set_option maxRecDepth 100000
set_option maxHeartbeats 4000000
/-! the set of tuples: the loop of set.update -/
namespace BS
open PySem PySem.Spec L2 PyProof.Rows
section
variable {P : Program} {w : World} {A : Around} {E : Value → Shared → Prop} {s : Shared}
theorem SetB.keep {h h' : Heap} {a : Addr} {L : List (Addr × List Int)} {es : Array (Int × Value)} {ep : Nat} {t : SetTable} (R : SetB P w h a L es ep t) (ha : ∀ o, h.get? a = some o → h'.get? a = some o) (ht : ∀ p ∈ L, IsT P w h' p.2 p.1) : SetB P w h' a L es ep t := by
  obtain ⟨o, ho, r⟩ := R.ob
  exact { R with ob := ⟨o, ha o ho, r⟩, tup := ht }
theorem fresh {h : Heap} {a : Addr} (ho : h.get? a = some { cls := .type "set", dict := none, data := .set #[] 0 (.fresh 0 0 (!w.params.followText "set-order")) }) : SetB P w h a [] #[] 0 (.fresh 0 0 (!w.params.followText "set-order")) where
  ob := ⟨_, ho, ⟨rfl, rfl, rfl⟩, rfl⟩
  rows := rfl
  tab := ⟨List.Pairwise.nil, rfl, rfl, .inl rfl, (fun x hx => nomatch hx), fun i h j hi => (by simp at hi)⟩
  nd := List.nodup_nil
  tup := fun p hp => nomatch hp
  plain := rfl
  led := by
    show _ ∨ (!w.params.followText "set-order") = true
    cases w.params.followText "set-order"
    · exact .inr rfl
    · exact .inl rfl
  room := show 0 * 5 < 7 * 3 by decide
theorem update {I : Addr} {fp wr : List Addr} {G : Array GenState → Array GenState → Prop} {n : Nat} {Pv : Nat → Value → Prop} {St : Nat → Shared → Prop} {R : Result → Shared → Prop}
    (W : WalksS P w A.in1 I fp wr G n Pv St) (S : Addr) (hSf : S ∉ fp) (ks : List (Addr × List Int)) (hn : n = ks.length) (hfew : ks.length < 4000) (hval : ∀ i v, Pv i v → ∃ p, ks[i]? = some p ∧ v = .ref p.1)
    (h0 : Heap) (hk : ∀ p ∈ ks, IsT P w h0 p.2 p.1) (hS0 : h0.get? S = none) (hw0 : ∀ b ∈ wr, h0.get? b = none) (hu : A.in1.units < cLine) :
    ∀ (k i : Nat) (s : Shared), n - i = k → i ≤ n → St i s → (∀ b o, h0.get? b = some o → s.heap.get? b = some o) → (∃ L es ep t, SetB P w s.heap S L es ep t ∧ Got ks i L) →
      (∀ s' L es ep t, Moved (S :: wr) G s s' → SetB P w s'.heap S L es ep t → Got ks n L → (∀ b o, h0.get? b = some o → s'.heap.get? b = some o) → R (.ok (.ret .none)) s') →
      codeAny (model P w) A (.builtin "set.update.loop" ⟨[.ref S, .ref I], []⟩) R s := by
  have hSw : S ∉ wr := fun h => hSf (W.sub _ h)
  have hsub : ∀ b ∈ wr, b ∈ S :: wr := fun b hb => List.mem_cons_of_mem _ hb
  have keepM : ∀ {s s' : Shared}, Moved wr G s s' → (∀ b o, h0.get? b = some o → s.heap.get? b = some o) → ∀ b o, h0.get? b = some o → s'.heap.get? b = some o := fun hm hkp b o e =>
    hm.heap b o (fun hb => by rw [hw0 b hb] at e; cases e) (hkp b o e)
  intro k
  induction k with
  | zero =>
    intro i s hk' hi hst hkp ⟨L, es, ep, t, hS, g⟩ hR
    have hin : i = n := by omega
    subst hin
    refine codeAny_builtin F.entry_set_update_loop ?_
    rw [Around.under_plainId F.plain_set_update_loop _]
    show wpAny _ A.in1 (pyNext (.ref I) >>= _) _ _ s
    refine wpAny_bind (W.done s _ _ hst fun s' hm => ?_)
    show wpAny _ A.in1 (ret Value.none) _ _ s'
    have hkp' := keepM hm hkp
    exact wpAny_pure (hR s' L es ep t (hm.mono hsub) (hS.keep (fun o e => hm.heap S o hSw e) fun p hp => isT_keep (hk p (List.mem_of_mem_take (g.sub p hp))) hkp') g hkp')
  | succ k ih =>
    intro i s hk' hi hst hkp ⟨L, es, ep, t, hS, g⟩ hR
    have hlt : i < n := by omega
    refine codeAny_builtin F.entry_set_update_loop ?_
    rw [Around.under_plainId F.plain_set_update_loop _]
    show wpAny _ A.in1 (pyNext (.ref I) >>= _) _ _ s
    refine wpAny_bind (W.item i s _ _ hlt hst fun v s' hP hst' hm => ?_)
    obtain ⟨p, hp, rfl⟩ := hval i v hP
    have hkp' := keepM hm hkp
    have hS' : SetB P w s'.heap S L es ep t := hS.keep (fun o e => hm.heap S o hSw e) fun q hq => isT_keep (hk q (List.mem_of_mem_take (g.sub q hq))) hkp'
    have hx : IsT P w s'.heap p.2 p.1 := isT_keep (hk p (List.mem_of_getElem? hp)) hkp'
    show wpAny _ A.in1 (holding [Value.ref p.1] (setAdd S (.ref p.1)) >>= _) _ _ s'
    refine wpAny_bind (wpAny_holding ?_)
    unfold setAdd
    refine wpAny_holding ?_
    refine wpAny_bind (wpAny_pyHash_tuple hu hx ?_)
    refine add (s := { s' with toks := s'.toks + (p.2.length + 1) }) hS' hx hu (by have := g.len; omega) fun b h' L' es' ep' t' hsb hS2 c1 c2 => ?_
    have g' : Got ks (i + 1) L' := by
      rcases Classical.em (p.2 ∈ L.map (·.2)) with c | c
      · rw [c1 c]; exact g.same hp c
      · exact g.more hp (c2 c)
    have hkp2 : ∀ b o, h0.get? b = some o → h'.get? b = some o := fun b o e => (hsb.2 b (fun z => by rw [z, hS0] at e; cases e)).trans (hkp' b o e)
    refine wpAny_pure ⟨plainId_quiet F.plain_set_update_loop _, ih (i + 1) _ (by omega) hlt (W.frame _ s' _ _ hst' (Nat.le_add_right _ _) fun b hb o e => ?_) hkp2 ⟨L', es', ep', t', hS2, g'⟩ fun s'' L2 es2 ep2 t2 hm'' hS'' g'' hkp'' => ?_⟩
    · rw [hsb.2 b (fun h : b = S => hSf (by rw [← h]; exact hb))]; exact e
    · refine hR s'' L2 es2 ep2 t2 (Moved.trans W.gtrans ((hm.mono hsub).then_heap (Nat.le_add_right _ _) fun b o hb e => ?_) hm'') hS'' g'' hkp''
      rw [hsb.2 b (fun h : b = S => hb (by rw [h]; exact List.mem_cons_self))]; exact e
end
end BS
end

section
set_option Elab.async false
set_option linter.all false
set_option maxRecDepth 100000
set_option maxHeartbeats 4000000
/-! set(x), x a tuple or a list of tuples of ints, fewer than 4000 -/
namespace BS
open PySem PySem.Spec L2 PyProof.Rows
section
variable {P : Program} {w : World} {A : Around} {E : Value → Shared → Prop} {s : Shared}
/-- set(t), t a tuple of tuples of ints -/
theorem call_set_tuple {l : Addr} {items : Array Value} (ks : List (Addr × List Int)) {Q : Value → Shared → Prop} (hh : A.handled = none) (hl : s.heap.IsTuple l items) (hit : items.toList = ks.map fun p => Value.ref p.1)
    (hk : ∀ p ∈ ks, IsT P w s.heap p.2 p.1) (hfew : ks.length < 4000) (hu : A.units + 3 < cLine)
    (h : ∀ (h' : Heap) (tk : Nat) L es ep t, SetB P w h' s.heap.objs.size L es ep t → Got ks ks.length L → (∀ b o, s.heap.get? b = some o → h'.get? b = some o) → Q (.ref s.heap.objs.size) { s with heap := h', toks := tk }) :
    wpAny (model P w) A (call (.type "set") [.ref l]) Q E s := by
  have hn : items.size = ks.length := by simpa using congrArg List.length hit
  generalize hob : ({ cls := .type "set", dict := none, data := .set #[] 0 (.fresh 0 0 (!w.params.followText "set-order")) } : Obj) = ob
  obtain ⟨c, tl, hmro⟩ := F.called_set.mro
  have f1 := F.called_set.made
  have f2 := F.called_set.sub
  have f3 := F.called_set.notType
  have f4 := F.called_set.canCreate
  have f5 := F.typeCall_set_1 (.ref l)
  have f6 := F.called_set.init.lookup
  have f7 := F.called_set.init.bind (.ref s.heap.objs.size)
  have hat : (s.heap.push ob).get? s.heap.objs.size = some ob := Heap.get?_push_size _ (by rw [← hob]; rfl)
  refine wpAny_call (codeAny_of_tree ?_)
  show wpAny _ _ (callAny (.type "set") _) _ _ _
  refine wpAny_pure ⟨Code.quiet_builtin _ (by decide +kernel), codeAny_builtin F.entry_type_call ?_⟩
  rw [Around.under_plain (weight_type_call_type "set" [.ref l] []) rfl]
  repeat (any_goals (first | assumption | wp_step))
  refine codeAny_mono (code_set_led1 (.ref l) (E := E) (Q₁ := fun obj s₁ => obj = .ref s.heap.objs.size ∧ s₁ = { s with heap := s.heap.push ob }) ⟨rfl, by rw [← hob]⟩) fun r s₁ hr => ?_
  match r, hr with
  | .error _, hr => exact hr
  | .ok (.ret obj), hr =>
    obtain ⟨rfl, rfl⟩ := hr
    have hT : Shared.TypeIs { s with heap := s.heap.push ob } (.ref s.heap.objs.size) "set" := ⟨_, hat, by rw [← hob]⟩
    repeat (any_goals (first | assumption | wp_step))
    refine codeAny_mono (codeAny_call_builtin (R := wants (fun r s₂ => r = .none ∧ ∃ h' tk L es ep t, s₂ = { s with heap := h', toks := tk } ∧ SetB P w h' s.heap.objs.size L es ep t ∧ Got ks ks.length L ∧
        (∀ b o, s.heap.get? b = some o → h'.get? b = some o)) E) F.called_set.init.plain F.entry_set_init (check_set_init_1 hT ?_)) fun r₂ s₂ hr₂ => ?_
    · subst hob
      obtain ⟨⟨oc, od, oda, osl⟩, g1, g2, n, g3⟩ := hl
      cases g2
      cases g3
      have g4 := F.sub_tuple_set
      have g5 := F.sub_tuple_frozenset
      have g6 : (Value.type "tuple" == Value.type "dict") = false := by decide
      have g7 : (s.heap.push { cls := .type "set", dict := none, data := .set #[] 0 (.fresh 0 0 (!w.params.followText "set-order")) }).get? l = some { cls := .type "tuple", dict := od, data := .seq items n, slots := osl } := Heap.get?_push_of_some _ g1
      have g8 : (s.heap.push { cls := .type "set", dict := none, data := .set #[] 0 (.fresh 0 0 (!w.params.followText "set-order")) }).IsTuple l items := ⟨_, g7, rfl, n, rfl⟩
      have hlt : l < s.heap.objs.size := Heap.lt_size g1
      have hsz : (s.heap.push { cls := .type "set", dict := none, data := .set #[] 0 (.fresh 0 0 (!w.params.followText "set-order")) }).objs.size = s.heap.objs.size + 1 := Heap.size_push ..
      have gone : ∀ b, s.heap.objs.size ≤ b → s.heap.get? b = none := fun b hb => by
        cases q : s.heap.get? b with
        | none => rfl
        | some o => exact absurd (Heap.lt_size q) (Nat.not_lt.mpr hb)
      unfold Builtin.«set.__init__» noKeywords Builtin.Frozenset.updateFrom
      generalize hPI : pyIter = PI
      wp_walk
      subst hPI
      refine wpAny_pyIter_tuple g8 ?_
      refine wpAny_bind (wpAny_runValue ?_)
      have k1 : A.in1.in1.in1.handled = none := by simp [hh]
      have k2 : l ≠ (s.heap.push { cls := .type "set", dict := none, data := .set #[] 0 (.fresh 0 0 (!w.params.followText "set-order")) }).objs.size := by rw [hsz]; exact Nat.ne_of_lt (Nat.lt_succ_of_lt hlt)
      have k3 : s.heap.objs.size ∉ [(s.heap.push { cls := .type "set", dict := none, data := .set #[] 0 (.fresh 0 0 (!w.params.followText "set-order")) }).objs.size, l] := by
        rw [hsz]
        simp only [List.mem_cons, List.not_mem_nil, or_false, not_or]
        exact ⟨Nat.ne_of_lt (Nat.lt_succ_self _), Nat.ne_of_gt hlt⟩
      refine update ((Walks.tuple k1 _ l k2 items).toS) s.heap.objs.size k3 ks hn hfew (fun i v hv => ?_) s.heap hk (gone _ (Nat.le_refl _)) (fun b hb => gone b ?_) hu (items.size - 0) 0 _ (by omega) (Nat.zero_le _)
        ⟨⟨_, Heap.get?_push_size _ rfl, rfl, rfl⟩, g8.push _⟩ (fun b o e => Heap.get?_push_of_some _ (Heap.get?_push_of_some _ e)) ⟨[], #[], 0, _, fresh (Heap.get?_push_of_some _ hat), Got.zero ks⟩ fun s' L es ep t hm hS' g' hkp => ?_
      · have q : items.toList[i]? = some v := by rw [Array.getElem?_toList]; exact hv
        rw [hit, List.getElem?_map] at q
        obtain ⟨p, e1, e2⟩ := Option.map_eq_some_iff.mp q
        exact ⟨p, e1, e2.symm⟩
      · rw [List.mem_singleton.mp hb, hsz]
        exact Nat.le_succ _
      · rw [hn] at g'
        obtain ⟨h', _, _, tk', _⟩ := s'
        cases hm.gens
        cases hm.drawn
        cases hm.os
        show wpAny _ _ _ _ _ _
        refine wpAny_pure ?_
        show wpAny _ _ (ret Value.none) _ _ _
        exact wpAny_pure ⟨rfl, h', tk', L, es, ep, t, rfl, hS', g', hkp⟩
    · match r₂, hr₂ with
      | .error _, hr₂ => exact hr₂
      | .ok (.ret _), hr₂ =>
        obtain ⟨rfl, h', tk, L, es, ep, t, rfl, hS', g', hk'⟩ := hr₂
        repeat (any_goals (first | assumption | wp_step))
        exact h _ _ _ _ _ _ hS' g' hk'
/-- set(t), t a list of tuples of ints -/
theorem call_set_list {l : Addr} {items : Array Value} (ks : List (Addr × List Int)) {Q : Value → Shared → Prop} (hh : A.handled = none) (hl : s.heap.IsList l items) (hit : items.toList = ks.map fun p => Value.ref p.1)
    (hk : ∀ p ∈ ks, IsT P w s.heap p.2 p.1) (hfew : ks.length < 4000) (hu : A.units + 3 < cLine)
    (h : ∀ (h' : Heap) (tk : Nat) L es ep t, SetB P w h' s.heap.objs.size L es ep t → Got ks ks.length L → (∀ b o, s.heap.get? b = some o → h'.get? b = some o) → Q (.ref s.heap.objs.size) { s with heap := h', toks := tk }) :
    wpAny (model P w) A (call (.type "set") [.ref l]) Q E s := by
  have hn : items.size = ks.length := by simpa using congrArg List.length hit
  generalize hob : ({ cls := .type "set", dict := none, data := .set #[] 0 (.fresh 0 0 (!w.params.followText "set-order")) } : Obj) = ob
  obtain ⟨c, tl, hmro⟩ := F.called_set.mro
  have f1 := F.called_set.made
  have f2 := F.called_set.sub
  have f3 := F.called_set.notType
  have f4 := F.called_set.canCreate
  have f5 := F.typeCall_set_1 (.ref l)
  have f6 := F.called_set.init.lookup
  have f7 := F.called_set.init.bind (.ref s.heap.objs.size)
  have hat : (s.heap.push ob).get? s.heap.objs.size = some ob := Heap.get?_push_size _ (by rw [← hob]; rfl)
  refine wpAny_call (codeAny_of_tree ?_)
  show wpAny _ _ (callAny (.type "set") _) _ _ _
  refine wpAny_pure ⟨Code.quiet_builtin _ (by decide +kernel), codeAny_builtin F.entry_type_call ?_⟩
  rw [Around.under_plain (weight_type_call_type "set" [.ref l] []) rfl]
  repeat (any_goals (first | assumption | wp_step))
  refine codeAny_mono (code_set_led1 (.ref l) (E := E) (Q₁ := fun obj s₁ => obj = .ref s.heap.objs.size ∧ s₁ = { s with heap := s.heap.push ob }) ⟨rfl, by rw [← hob]⟩) fun r s₁ hr => ?_
  match r, hr with
  | .error _, hr => exact hr
  | .ok (.ret obj), hr =>
    obtain ⟨rfl, rfl⟩ := hr
    have hT : Shared.TypeIs { s with heap := s.heap.push ob } (.ref s.heap.objs.size) "set" := ⟨_, hat, by rw [← hob]⟩
    repeat (any_goals (first | assumption | wp_step))
    refine codeAny_mono (codeAny_call_builtin (R := wants (fun r s₂ => r = .none ∧ ∃ h' tk L es ep t, s₂ = { s with heap := h', toks := tk } ∧ SetB P w h' s.heap.objs.size L es ep t ∧ Got ks ks.length L ∧
        (∀ b o, s.heap.get? b = some o → h'.get? b = some o)) E) F.called_set.init.plain F.entry_set_init (check_set_init_1 hT ?_)) fun r₂ s₂ hr₂ => ?_
    · subst hob
      obtain ⟨⟨oc, od, oda, osl⟩, g1, g2, n, g3⟩ := hl
      cases g2
      cases g3
      have g4 := F.sub_list_set
      have g5 := F.sub_list_frozenset
      have g6 : (Value.type "list" == Value.type "dict") = false := by decide
      have g7 : (s.heap.push { cls := .type "set", dict := none, data := .set #[] 0 (.fresh 0 0 (!w.params.followText "set-order")) }).get? l = some { cls := .type "list", dict := od, data := .seq items n, slots := osl } := Heap.get?_push_of_some _ g1
      have g8 : (s.heap.push { cls := .type "set", dict := none, data := .set #[] 0 (.fresh 0 0 (!w.params.followText "set-order")) }).IsList l items := ⟨_, g7, rfl, n, rfl⟩
      have hlt : l < s.heap.objs.size := Heap.lt_size g1
      have hsz : (s.heap.push { cls := .type "set", dict := none, data := .set #[] 0 (.fresh 0 0 (!w.params.followText "set-order")) }).objs.size = s.heap.objs.size + 1 := Heap.size_push ..
      have gone : ∀ b, s.heap.objs.size ≤ b → s.heap.get? b = none := fun b hb => by
        cases q : s.heap.get? b with
        | none => rfl
        | some o => exact absurd (Heap.lt_size q) (Nat.not_lt.mpr hb)
      unfold Builtin.«set.__init__» noKeywords Builtin.Frozenset.updateFrom
      generalize hPI : pyIter = PI
      wp_walk
      subst hPI
      refine wpAny_pyIter_list g8 ?_
      refine wpAny_bind (wpAny_runValue ?_)
      have k1 : A.in1.in1.in1.handled = none := by simp [hh]
      have k2 : l ≠ (s.heap.push { cls := .type "set", dict := none, data := .set #[] 0 (.fresh 0 0 (!w.params.followText "set-order")) }).objs.size := by rw [hsz]; exact Nat.ne_of_lt (Nat.lt_succ_of_lt hlt)
      have k3 : s.heap.objs.size ∉ [(s.heap.push { cls := .type "set", dict := none, data := .set #[] 0 (.fresh 0 0 (!w.params.followText "set-order")) }).objs.size, l] := by
        rw [hsz]
        simp only [List.mem_cons, List.not_mem_nil, or_false, not_or]
        exact ⟨Nat.ne_of_lt (Nat.lt_succ_self _), Nat.ne_of_gt hlt⟩
      refine update ((Walks.list k1 _ l k2 items).toS) s.heap.objs.size k3 ks hn hfew (fun i v hv => ?_) s.heap hk (gone _ (Nat.le_refl _)) (fun b hb => gone b ?_) hu (items.size - 0) 0 _ (by omega) (Nat.zero_le _)
        ⟨⟨_, Heap.get?_push_size _ rfl, rfl, rfl⟩, g8.push _⟩ (fun b o e => Heap.get?_push_of_some _ (Heap.get?_push_of_some _ e)) ⟨[], #[], 0, _, fresh (Heap.get?_push_of_some _ hat), Got.zero ks⟩ fun s' L es ep t hm hS' g' hkp => ?_
      · have q : items.toList[i]? = some v := by rw [Array.getElem?_toList]; exact hv
        rw [hit, List.getElem?_map] at q
        obtain ⟨p, e1, e2⟩ := Option.map_eq_some_iff.mp q
        exact ⟨p, e1, e2.symm⟩
      · rw [List.mem_singleton.mp hb, hsz]
        exact Nat.le_succ _
      · rw [hn] at g'
        obtain ⟨h', _, _, tk', _⟩ := s'
        cases hm.gens
        cases hm.drawn
        cases hm.os
        show wpAny _ _ _ _ _ _
        refine wpAny_pure ?_
        show wpAny _ _ (ret Value.none) _ _ _
        exact wpAny_pure ⟨rfl, h', tk', L, es, ep, t, rfl, hS', g', hkp⟩
    · match r₂, hr₂ with
      | .error _, hr₂ => exact hr₂
      | .ok (.ret _), hr₂ =>
        obtain ⟨rfl, h', tk, L, es, ep, t, rfl, hS', g', hk'⟩ := hr₂
        repeat (any_goals (first | assumption | wp_step))
        exact h _ _ _ _ _ _ hS' g' hk'
end
end BS
end

section
set_option Elab.async false
set_option linter.all false
set_option maxRecDepth 100000
set_option maxHeartbeats 4000000
/-! lists of tuples some of which are empty can be sorted, too -/
namespace BS
open PySem PySem.W PySem.Calls PyProof.Rows PySem.SeqAt
section
variable {prog : Program} {w : World} {A : Around} {E : Value → Shared → Prop} {s : Shared}
theorem call_tuple_lt {Q : Value → Shared → Prop} {l b : Addr} {items items2 : Array Value} {e r : Nat → Bool} (hl : s.heap.IsTuple l items) (hb : s.heap.IsTuple b items2)
    (he : ∀ j (h1 : j < items.size) (h2 : j < items2.size), EqAt A.in1 s items[j] items2[j] (e j)) (hr : ∀ j (h1 : j < items.size) (h2 : j < items2.size), e j = false → RcLt A.in1 s items[j] items2[j] (r j))
    (h : Q (.bool (firstLt e r (decide (items.size < items2.size)) (List.range (min items.size items2.size)))) s) : wpAny (model prog w) A (call (.builtin "tuple.__lt__") [.ref l, .ref b]) Q E s := by
  obtain ⟨⟨cls, dd, data, sl⟩, ho, hc, n, hd⟩ := id hl
  obtain ⟨⟨cls2, dd2, data2, sl2⟩, ho2, hc2, n2, hd2⟩ := id hb
  simp only at hc hd hc2 hd2
  subst hc hd hc2 hd2
  exact call_meets F.slot_tuple_lt ⟨_, ho, rfl⟩ F.entry_tuple_lt (F.args_tuple_lt_2 _ _) (tuple_ltAt l b items items2 n n2 dd dd2 sl sl2 e r) ⟨ho, ho2, he, hr, h⟩
theorem oneLt_tuples {xs ys : List PyData} {a b : Value} {as bs : List Addr} {Q : Bool → Shared → Prop} (ra : Reads s.heap a (.tuple xs) as) (rb : Reads s.heap b (.tuple ys) bs) (h : alike (.tuple xs) (.tuple ys) = true)
    (hu : A.units + min (PyData.tuple xs).depth (PyData.tuple ys).depth < cLine) (hq : Q (dataLt (.tuple xs) (.tuple ys)) s) : wpAny (model prog w) A (oneLt' true a b) Q E s := by
  have hal : alikeAll xs ys = true := by simpa [alike] using h
  cases ra with
  | @tuple l o vs n _ as₁ h1 h2 h3 h4 =>
    cases rb with
    | @tuple l' o' vs' n' _ bs₁ k1 k2 k3 k4 =>
      have n1 : vs.size = xs.length := by simpa using ReadsAll.length _ _ _ h4
      have n2 : vs'.size = ys.length := by simpa using ReadsAll.length _ _ _ k4
      rw [dataLt_tuple, ← firstLt_toks xs ys hal, ← n1, ← n2] at hq
      rw [oneLt'_eq]
      simp only [if_true]
      refine wpAny_bind (wpAny_cRoomFor (room_here hu) ?_)
      refine wpAny_bind (wpAny_callSpecialIfBound?_slot (T := "tuple") ⟨_, h1, h2⟩ F.slot_tuple_lt (call_tuple_lt (e := pairEq xs ys) (r := fun j => dataLt (xs.getD j .none) (ys.getD j .none)) ⟨_, h1, h2, _, h3⟩ ⟨_, k1, k2, _, k3⟩ (fun j j1 j2 => ?_) (fun j j1 j2 hj => ?_) ?_))
      · have := eqAt_alikeAll xs ys A.in1 s vs.toList vs'.toList _ _ h4 k4 hal (room_in hu) j (by simpa using j1) (by simpa using j2)
        simpa using this
      · have := rcLt_alikeAll xs ys A.in1 s vs.toList vs'.toList _ _ h4 k4 hal (room_in hu) j (by simpa using j1) (by simpa using j2) hj
        simpa using this
      · exact wpAny_truthy_bool hq
def fullT : PyData → Bool
  | .tuple [] => false
  | _ => true
theorem fullT_of {xs : List PyData} (h : PyData.tuple xs ≠ .tuple []) : fullT (.tuple xs) = true := by
  cases xs with
  | nil => exact absurd rfl h
  | cons x r => rfl
/-- the first item of each of some tuples, if it has one -/
theorem firsts_tups : ∀ (vs : List Value) (ds : List PyData) {Q : List (Option Value) → Shared → Prop}, EachIs (fun v d => ∃ as, Reads s.heap v d as) vs ds → (∀ d ∈ ds, ∃ xs, d = .tuple xs) → (∀ fs : List (Option Value), EachIs (fun f d => f.isSome = fullT d) fs ds → Q fs s) → wpAny (model prog w) A (vs.mapM firstOfTuple') Q E s
  | [], _, _, .nil, _, h => by rw [List.mapM_nil]; exact wpAny_pure (h [] .nil)
  | v :: vs, d :: ds, Q, .cons ⟨as, r⟩ t, ht, h => by
    obtain ⟨xs, rfl⟩ := ht d List.mem_cons_self
    rw [List.mapM_cons]
    refine wpAny_bind ?_
    rw [kas_first_eq]
    refine wpAny_bind ((looks_reads r).here ?_)
    rw [if_neg (by first | decide | simp [dataType])]
    cases r with
    | @tuple a o ys n _ _ h1 h2 h3 h4 =>
      refine wpAny_bind (listItems_at h1 h3 (wpAny_pure ?_))
      refine wpAny_bind (firsts_tups vs ds t (fun d hd => ht d (List.mem_cons_of_mem _ hd)) fun fs hfs => wpAny_pure (h _ (.cons ?_ hfs)))
      have n1 : ys.size = xs.length := by simpa using ReadsAll.length _ _ _ h4
      cases xs with
      | nil =>
        have : ys[0]? = none := by simp at n1; simp [n1]
        rw [this]
        rfl
      | cons x r =>
        have : 0 < ys.size := by rw [n1]; simp
        rw [Array.getElem?_eq_getElem this]
        rfl
theorem each_at {α β : Type} {R : α → β → Prop} : ∀ {as : List α} {bs : List β}, EachIs R as bs → ∀ b ∈ bs, ∃ a ∈ as, R a b
  | _, _, .nil, b, h => nomatch h
  | _, _, .cons h t, b, hb => by
    rcases List.mem_cons.mp hb with rfl | hb
    · exact ⟨_, List.mem_cons_self, h⟩
    · obtain ⟨a, ha, r⟩ := each_at t b hb
      exact ⟨a, List.mem_cons_of_mem _ ha, r⟩
theorem sortsAt_tuples {vs : List Value} {ds : List PyData} (e : EachIs (fun v d => ∃ as, Reads s.heap v d as) vs ds) (hal : AllAlike ds) (ht : ∀ d ∈ ds, ∃ xs, d = .tuple xs) (hu : ∀ d, d ∈ ds → A.units + d.depth < cLine) : SortsAt prog w A s (dataKind s.heap ds) vs := by
  have room : ∀ {d d' : PyData}, d ∈ ds → A.units + min d.depth d'.depth < cLine := fun {d d'} hd => Nat.lt_of_le_of_lt (Nat.add_le_add_left (Nat.min_le_left _ _) _) (hu d hd)
  by_cases hne : ∀ d ∈ ds, ∃ x r, d = .tuple (x :: r)
  · exact SortsAt.data e hal (.inl hne) hu
  have gen : H.LtAt prog w A s (dataKind s.heap ds) general' := by
    intro E x y a b Q ha hb hq
    obtain ⟨d, as, hd, ra, rfl⟩ := dataKind_inv ha
    obtain ⟨d', as', hd', rb, rfl⟩ := dataKind_inv hb
    obtain ⟨xs, rfl⟩ := ht d hd
    exact oneLt_alike (f := false) (fun h => nomatch h) ra rb (hal _ hd d' hd') (fun h => nomatch h) (room hd) hq
  have one : H.LtAt prog w A s (dataKind s.heap ds) oneType' := by
    intro E x y a b Q ha hb hq
    obtain ⟨d, as, hd, ra, rfl⟩ := dataKind_inv ha
    obtain ⟨d', as', hd', rb, rfl⟩ := dataKind_inv hb
    obtain ⟨xs, rfl⟩ := ht d hd
    obtain ⟨ys, rfl⟩ := ht d' hd'
    rw [keyLt'_oneType]
    exact oneLt_tuples ra rb (hal _ hd _ hd') (room hd) hq
  refine ⟨fun v hv => ?_, ?_⟩
  · obtain ⟨d, hd, as, r⟩ := e.left v hv
    exact ⟨_, dataKind_some hal hd r⟩
  · obtain ⟨d1, hd1, hd2⟩ : ∃ d ∈ ds, d = .tuple [] := by
      refine Classical.byContradiction fun hno => hne fun d hd => ?_
      obtain ⟨xs, rfl⟩ := ht d hd
      cases xs with
      | nil => exact absurd ⟨_, hd, rfl⟩ hno
      | cons x r => exact ⟨x, r, rfl⟩
    cases ds with
    | nil => cases hd1
    | cons d₀ ds₀ =>
      cases vs with
      | nil => cases e
      | cons v₀ vs₀ =>
        have notall : ∀ fs : List (Option Value), EachIs (fun f d => f.isSome = fullT d) fs (d₀ :: ds₀) → (fs.toArray.all fun x => x.isSome) = false := by
          intro fs hfs
          obtain ⟨f, hf, hfd⟩ := each_at hfs d1 hd1
          rw [hd2] at hfd
          simp only [List.all_toArray]
          rw [List.all_eq_false]
          exact ⟨f, hf, by rw [hfd]; simp [fullT]⟩
        by_cases h0 : d₀ = .tuple []
        · refine ⟨oneType', one, fun h2 E Q hq => ?_⟩
          rw [keyKind'_eq, List.mapM_toArray, map_eq_pure_bind]
          refine wpAny_bind (wpAny_bind (firsts_tups _ _ e ht fun fs hfs => wpAny_pure ?_))
          rw [if_neg (by rw [notall fs hfs]; simp)]
          cases hfs with
          | @cons f d fs' ds' hf hr =>
            rw [h0] at hf
            have hf' : f = none := by
              cases f with
              | none => rfl
              | some x => simp [fullT] at hf
            subst hf'
            rw [if_neg (by simp)]
            rw [oneTypeOnly'_eq, List.mapM_toArray, map_eq_pure_bind]
            refine wpAny_bind (wpAny_bind (wpAny_bind (kas_mapM (r := Value.type "tuple") _ (fun v hv Q' hq => ?_) (wpAny_pure ?_))))
            · obtain ⟨d, hd, as, r⟩ := e.left v hv
              obtain ⟨xs, rfl⟩ := ht d hd
              exact (looks_reads r).here hq
            · have hall : ((List.map (fun _ => Value.type "tuple") (v₀ :: vs₀)).toArray.all fun x => x == Value.type "tuple") = true := by
                simp only [List.all_toArray, List.all_map, List.all_eq_true]
                intro _ _
                exact beq_self_eq_true _
              have h0 : (List.map (fun _ => Value.type "tuple") (v₀ :: vs₀)).toArray[0]? = some (Value.type "tuple") := by simp
              rw [h0]
              simp only [hall, if_true]
              exact wpAny_pure (wpAny_pure hq)
        · refine ⟨general', gen, fun h2 E Q hq => ?_⟩
          rw [keyKind'_eq, List.mapM_toArray, map_eq_pure_bind]
          refine wpAny_bind (wpAny_bind (firsts_tups _ _ e ht fun fs hfs => wpAny_pure ?_))
          rw [if_neg (by rw [notall fs hfs]; simp)]
          cases hfs with
          | @cons f d fs' ds' hf hr =>
            obtain ⟨zs, rfl⟩ := ht d₀ List.mem_cons_self
            rw [fullT_of h0] at hf
            obtain ⟨x, rfl⟩ := Option.isSome_iff_exists.mp hf
            rw [if_pos (by simp)]
            exact wpAny_pure hq
def SortX (ds : List PyData) : Prop := Sortable ds ∨ ∀ d ∈ ds, ∃ xs, d = .tuple xs
theorem sortsAt_X {vs : List Value} {ds : List PyData} (e : EachIs (fun v d => ∃ as, Reads s.heap v d as) vs ds) (hal : AllAlike ds) (hk : SortX ds) (hu : ∀ d, d ∈ ds → A.units + d.depth < cLine) : SortsAt prog w A s (dataKind s.heap ds) vs := by
  rcases hk with hk | hk
  · exact SortsAt.data e hal hk hu
  · exact sortsAt_tuples e hal hk hu
variable {β : Type} {vs : List Value} {bs : List β} {enc : β → PyData} {R : Value → β → Prop}
theorem sorted_X {l : Addr} {Q : Value → Shared → Prop} (hl : s.heap.IsList l vs.toArray) (e : EachIs R vs bs) (er : EachIs (fun v b => ∃ as, Reads s.heap v (enc b) as) vs bs) (hal : AllAlike (bs.map enc)) (hk : SortX (bs.map enc)) (hL : bs.length ≤ sizeLine)
    (hu : ∀ b, b ∈ bs → A.units + 2 + (enc b).depth < cLine) (h : ∀ out, out.length = bs.length → EachIs R out (bs.mergeSort (dataLe false enc)) → Q (.ref (s.heap.objs.size + 1)) { s with heap := sortedAll s.heap vs (List.toArray out) }) :
    wpAny (model prog w) A (call (.builtin "sorted") [.ref l]) Q E s := by
  have er' : EachIs (fun v b => ∃ as, Reads (sortingHeap (copyHeap s.heap vs) (s.heap.objs.size + 1) vs) v (enc b) as) vs bs := er.mono fun _ _ ⟨as, r⟩ => ⟨as, PyProof.Rows.Reads.keeps (fun _ _ => sorting_copy_old) r⟩
  exact sorted_vals hl (sortsAt_X (s := { s with heap := sortingHeap (copyHeap s.heap vs) (s.heap.objs.size + 1) vs }) (each_map (R := fun v d => ∃ as, Reads (sortingHeap (copyHeap s.heap vs) (s.heap.objs.size + 1) vs) v d as) enc er') hal hk (bound_map hu)) (by rw [e.length]; exact hL)
    (h _ (by rw [sortVals_length false rfl]; exact e.length) (sortVals_data false e er' hal))
theorem list_sort_X {a : Addr} {n : Nat} {Q : Value → Shared → Prop} (ho : s.heap.get? a = some (seqObj "list" vs.toArray n)) (e : EachIs R vs bs) (er : EachIs (fun v b => ∃ as, Reads s.heap v (enc b) as ∧ a ∉ as) vs bs) (hal : AllAlike (bs.map enc)) (hk : SortX (bs.map enc)) (hL : bs.length ≤ sizeLine)
    (hu : ∀ b, b ∈ bs → A.units + 1 + (enc b).depth < cLine) (h : ∀ out, out.length = bs.length → EachIs R out (bs.mergeSort (dataLe false enc)) → Q .none { s with heap := sortedHeap s.heap a vs (List.toArray out) }) :
    wpAny (model prog w) A (call (.builtin "list.sort") [.ref a]) Q E s := by
  have er' : EachIs (fun v b => ∃ as, Reads (sortingHeap s.heap a vs) v (enc b) as) vs bs := each_keepBut (h' := sortingHeap s.heap a vs) (fun _ _ hb q => sortingHeap_old hb q) (fun o q => by rw [ho] at q; rw [← Option.some.inj q]) hal er
  refine wpAny_call_entry PyProof.Rows.slot_list_sort ⟨_, ho, rfl⟩ PyProof.Rows.entry_list_sort (list_sort_vals (κ := dataKind (sortingHeap s.heap a vs) (bs.map enc)) ho (sortsAt_X (s := { s with heap := sortingHeap s.heap a vs }) (each_map (R := fun v d => ∃ as, Reads (sortingHeap s.heap a vs) v d as) enc er') hal hk (bound_map hu)) (by rw [e.length]; exact hL) ⟨.none, rfl, ?_⟩) (PyProof.Rows.args_list_sort _)
  exact h _ (by rw [sortVals_length false rfl]; exact e.length) (sortVals_data false e er' hal)
end
end BS
end

section
set_option Elab.async false
set_option linter.all false
set_option maxRecDepth 100000
set_option maxHeartbeats 4000000
namespace DL
open PySem L2 PyProof.Rows
/-! ### the order of lists of ints; sorted, each once -/
def lexL : List Int → List Int → Bool
  | [], [] => false
  | [], _ :: _ => true
  | _ :: _, [] => false
  | x :: xs, y :: ys => decide (x < y) || (decide (x = y) && lexL xs ys)
theorem lexL_irr : ∀ x : List Int, lexL x x = false
  | [] => rfl
  | x :: xs => by simp [lexL, lexL_irr xs]
theorem lexL_tr : ∀ {x y z : List Int}, lexL x y = true → lexL y z = true → lexL x z = true
  | [], [], _, h, _ => by cases h
  | [], _ :: _, [], _, h => by cases h
  | [], _ :: _, _ :: _, _, _ => rfl
  | _ :: _, [], _, h, _ => by cases h
  | _ :: _, _ :: _, [], _, h => by cases h
  | x :: xs, y :: ys, z :: zs, h1, h2 => by
    simp only [lexL, Bool.or_eq_true, Bool.and_eq_true, decide_eq_true_eq] at h1 h2 ⊢
    rcases h1 with h1 | ⟨h1, h3⟩ <;> rcases h2 with h2 | ⟨h2, h4⟩
    · exact .inl (by omega)
    · exact .inl (by omega)
    · exact .inl (by omega)
    · exact .inr ⟨by omega, lexL_tr h3 h4⟩
theorem lexL_tri : ∀ (x y : List Int), lexL x y = true ∨ x = y ∨ lexL y x = true
  | [], [] => .inr (.inl rfl)
  | [], _ :: _ => .inl rfl
  | _ :: _, [] => .inr (.inr rfl)
  | x :: xs, y :: ys => by
    simp only [lexL, Bool.or_eq_true, Bool.and_eq_true, decide_eq_true_eq, List.cons.injEq]
    rcases Int.lt_trichotomy x y with h | h | h
    · exact .inl (.inl h)
    · rcases lexL_tri xs ys with k | k | k
      · exact .inl (.inr ⟨h, k⟩)
      · exact .inr (.inl ⟨h, k⟩)
      · exact .inr (.inr (.inr ⟨h.symm, k⟩))
    · exact .inr (.inr (.inl h))
/-- strictly rising -/
abbrev RisL (l : List (List Int)) : Prop := l.Pairwise fun x y => lexL x y = true
def insU (x : List Int) : List (List Int) → List (List Int)
  | [] => [x]
  | y :: l => if x = y then y :: l else if lexL x y = true then x :: y :: l else y :: insU x l
def sortU (l : List (List Int)) : List (List Int) := l.foldr insU []
theorem mem_insU {x z : List Int} : ∀ {l : List (List Int)}, z ∈ insU x l ↔ z = x ∨ z ∈ l
  | [] => by simp [insU]
  | y :: l => by
    unfold insU
    split
    · rename_i h
      subst h
      simp
    · split
      · simp
      · simp only [List.mem_cons, mem_insU (l := l)]
        constructor
        · rintro (h | h | h)
          · exact .inr (.inl h)
          · exact .inl h
          · exact .inr (.inr h)
        · rintro (h | h | h)
          · exact .inr (.inl h)
          · exact .inl h
          · exact .inr (.inr h)
theorem ris_insU {x : List Int} : ∀ {l : List (List Int)}, RisL l → RisL (insU x l)
  | [], _ => List.pairwise_singleton _ _
  | y :: l, h => by
    obtain ⟨h1, h2⟩ := List.pairwise_cons.mp h
    unfold insU
    split
    · exact h
    · rename_i hne
      split
      · rename_i hl
        refine List.pairwise_cons.mpr ⟨fun z hz => ?_, h⟩
        rcases List.mem_cons.mp hz with rfl | hz
        · exact hl
        · exact lexL_tr hl (h1 z hz)
      · rename_i hl
        refine List.pairwise_cons.mpr ⟨fun z hz => ?_, ris_insU h2⟩
        rcases mem_insU.mp hz with rfl | hz
        · rcases lexL_tri z y with k | k | k
          · exact absurd k hl
          · exact absurd k hne
          · exact k
        · exact h1 z hz
theorem mem_sortU {z : List Int} : ∀ {l : List (List Int)}, z ∈ sortU l ↔ z ∈ l
  | [] => Iff.rfl
  | x :: l => by
    show z ∈ insU x (sortU l) ↔ _
    rw [mem_insU, mem_sortU (l := l), List.mem_cons]
theorem ris_sortU : ∀ (l : List (List Int)), RisL (sortU l)
  | [] => List.Pairwise.nil
  | x :: l => ris_insU (ris_sortU l)
theorem ris_eq : ∀ {l m : List (List Int)}, RisL l → RisL m → (∀ x, x ∈ l ↔ x ∈ m) → l = m
  | [], [], _, _, _ => rfl
  | [], y :: m, _, _, h => absurd ((h y).mpr List.mem_cons_self) (by simp)
  | x :: l, [], _, _, h => absurd ((h x).mp List.mem_cons_self) (by simp)
  | x :: l, y :: m, hl, hm, h => by
    obtain ⟨l1, l2⟩ := List.pairwise_cons.mp hl
    obtain ⟨m1, m2⟩ := List.pairwise_cons.mp hm
    have e : x = y := by
      rcases List.mem_cons.mp ((h x).mp List.mem_cons_self) with e | hx
      · exact e
      · rcases List.mem_cons.mp ((h y).mpr List.mem_cons_self) with e | hy
        · exact e.symm
        · have := lexL_tr (l1 y hy) (m1 x hx)
          rw [lexL_irr] at this
          cases this
    subst e
    refine congrArg (x :: ·) (ris_eq l2 m2 fun z => ?_)
    constructor
    · intro hz
      rcases List.mem_cons.mp ((h z).mp (List.mem_cons_of_mem _ hz)) with e | hz'
      · subst e
        have := l1 z hz
        rw [lexL_irr] at this
        cases this
      · exact hz'
    · intro hz
      rcases List.mem_cons.mp ((h z).mpr (List.mem_cons_of_mem _ hz)) with e | hz'
      · subst e
        have := m1 z hz
        rw [lexL_irr] at this
        cases this
      · exact hz'
theorem sortU_eq {l m : List (List Int)} (hm : RisL m) (h : ∀ x, x ∈ l ↔ x ∈ m) : sortU l = m := ris_eq (ris_sortU l) hm fun x => mem_sortU.trans (h x)
theorem sortU_len : ∀ (l : List (List Int)), (sortU l).length ≤ l.length := by
  have : ∀ (x : List Int) (l : List (List Int)), (insU x l).length ≤ l.length + 1 := by
    intro x l
    induction l with
    | nil => simp [insU]
    | cons y l ih =>
      unfold insU
      split
      · simp
      · split
        · simp
        · simp; omega
  intro l
  induction l with
  | nil => exact Nat.le_refl _
  | cons x l ih =>
    have := this x (sortU l)
    show (insU x (sortU l)).length ≤ _
    rw [List.length_cons]
    omega
theorem code_lex2 {B : Int} : ∀ {x y : List Int}, x.length = y.length → TS.Bd B x → TS.Bd B y → TS.code B x ≤ TS.code B y → x = y ∨ lexL x y = true
  | [], [], _, _, _, _ => .inl rfl
  | x :: xs, y :: ys, hl, h1, h2, h => by
    have hl' : xs.length = ys.length := by simpa using hl
    simp only [lexL, Bool.or_eq_true, Bool.and_eq_true, decide_eq_true_eq, List.cons.injEq]
    rcases Int.lt_trichotomy x y with k | k | k
    · exact .inr (.inl k)
    · subst k
      have h3 : TS.code B xs ≤ TS.code B ys := by
        have := TS.code_same (B := B) (d := x) hl'.symm
        by_cases z : TS.code B ys < TS.code B xs
        · have := this.mpr z
          omega
        · omega
      rcases code_lex2 hl' h1.tail h2.tail h3 with e | e
      · exact .inl ⟨rfl, e⟩
      · exact .inr (.inr ⟨rfl, e⟩)
    · have := TS.code_lt (B := B) hl'.symm h2.tail h1.tail k
      omega
/-! ### tuples of ints among the data -/
def tints : List DV → Option (List (List Int))
  | [] => some []
  | .d (.tuple xs) :: r => (match dints (xs.map .d) with | some a => (tints r).map (a :: ·) | none => none)
  | _ :: _ => none
theorem tints_map : ∀ l : List (List Int), tints ((l.map fun a => PyData.tuple (a.map .int)).map .d) = some l
  | [] => rfl
  | a :: l => by
    have e : dints ((a.map PyData.int).map DV.d) = some a := by rw [List.map_map]; exact dints_map a
    rw [List.map_cons, List.map_cons, tints, e, tints_map l]
    rfl
section
variable {P : Program} {w : World} {K : PySem.W.Frag} {mg : Str → Option Value} {base : Heap} {X : Cx} {N : List Str} {sc fs : Scope} {k : Nat}
theorem tints_rvs {F : Hp} : ∀ {vs : List V} {xs : List DV} {ts : List (List Int)}, RVs K F vs xs → tints xs = some ts → ∃ ks : List (Addr × List Int), vs = ks.map (fun p => V.ref p.1) ∧ ts = ks.map (·.2) ∧ ∀ p ∈ ks, F p.1 = some (.tup (p.2.map V.int))
  | _, [], ts, r, h => by cases h; cases r; exact ⟨[], rfl, rfl, fun p hp => nomatch hp⟩
  | v :: vs, .d (.tuple ds) :: xs, ts, .cons r q, h => by
    unfold tints at h
    split at h
    · rename_i a ea
      cases e : tints xs with
      | none => rw [e] at h; cases h
      | some l =>
        rw [e] at h
        cases h
        obtain ⟨ks, h1, h2, h3⟩ := tints_rvs q e
        cases r with
        | d r =>
          cases r with
          | tup q2 s2 =>
            rename_i p ws
            obtain ⟨e1, _⟩ := dints_rvs s2.rvs ea
            subst e1
            refine ⟨(p, a) :: ks, by rw [h1]; rfl, by rw [h2]; rfl, fun z hz => ?_⟩
            rcases List.mem_cons.mp hz with e | hz
            · rw [e]; exact q2
            · exact h3 z hz
    · cases h
  | _, .d .none :: _, _, _, h => by cases h
  | _, .d (.bool _) :: _, _, _, h => by cases h
  | _, .d (.int _) :: _, _, _, h => by cases h
  | _, .d (.str _) :: _, _, _, h => by cases h
  | _, .d (.list _) :: _, _, _, h => by cases h
  | _, .d (.dict _) :: _, _, _, h => by cases h
  | _, .r _ :: _, _, _, h => by cases h
  | _, .t _ :: _, _, _, h => by cases h
end
end DL
end

section
set_option Elab.async false
set_option linter.all false
set_option maxRecDepth 100000
set_option maxHeartbeats 4000000
namespace DL
open PySem L2 PyProof.Rows
section
variable {P : Program} {w : World} {K : PySem.W.Frag} {mg : Str → Option Value} {base : Heap} {X : Cx} {N : List Str} {sc fs : Scope} {k : Nat}
theorem readsAll_of {h : Heap} : ∀ {vs : List Value} {ns : List Int}, IntsAre vs ns → ReadsAll h vs (ns.map .int) []
  | _, _, .nil => .nil
  | _, _, .cons n t r => .cons (.int n t) (readsAll_of r)
def rMax1 (K : PySem.W.Frag) : List V → Hp → VK → Prop := fun vs H Q => ∃ (a : Addr) (n : Int) (ns : List Int), vs = [V.ref a] ∧ (SqL K H a ((n :: ns).map V.int) ∨ SqT K H a ((n :: ns).map V.int)) ∧ Q (.int (ns.foldl max n)) H
def rMin1 (K : PySem.W.Frag) : List V → Hp → VK → Prop := fun vs H Q => ∃ (a : Addr) (n : Int) (ns : List Int), vs = [V.ref a] ∧ (SqL K H a ((n :: ns).map V.int) ∨ SqT K H a ((n :: ns).map V.int)) ∧ Q (.int (ns.foldl min n)) H
theorem alike_ints (ns : List Int) : PySem.W.AlikeAll (ns.map PyData.int) := PySem.W.alikeAll_datum ns
theorem dep_ints : ∀ ns : List Int, PyData.depthAll (ns.map PyData.int) = 0
  | [] => rfl
  | n :: ns => by
    simp only [List.map_cons, PyData.depthAll, PyData.depth, dep_ints ns]
    rfl
theorem cr_max1 (hc : X.calm = true) (hu : X.A.units + 64 < cLine) : CallR X (.builtin "max") (rMax1 X.K) := by
  intro pins s σ H vs us Q I r h
  obtain ⟨a, n, ns, rfl, hs, q⟩ := h
  rw [Vals.ref1 r]
  have fin : ∀ (v : Value) h' tk bs, PySem.Reads h' v (PySem.W.maxD (.int n) (ns.map .int)) bs → (∀ b o, s.heap.get? b = some o → h'.get? b = some o) → ∃ x H', Inv X pins σ H' { s with heap := h', toks := tk } ∧ RelV x v ∧ Q x H' := by
    intro v h' tk bs hr hk
    rw [PySem.W.maxD_ints] at hr
    cases hr with
    | int _ t => exact ⟨.int _, H, I.kept fun b o e => hk b o e, ⟨t, rfl⟩, q⟩
  rcases hs with hs | hs
  · obtain ⟨its, rv, hl, _⟩ := I.list hs
    exact PySem.W.max_list_data (I.ok.hd hc) hl.isList (readsAll_of rv.ints) (alike_ints (n :: ns)) (by rw [← List.map_cons, dep_ints]; omega) fun i v h' tk bs _ hr hk => fin v h' tk bs hr hk
  · obtain ⟨its, rv, ⟨ol, o1, o2, m, o3⟩, _⟩ := I.tuple hs
    exact PySem.W.max_tuple_data (I.ok.hd hc) ⟨ol, o1, o2, m, o3⟩ (readsAll_of rv.ints) (alike_ints (n :: ns)) (by rw [← List.map_cons, dep_ints]; omega) fun i v h' tk bs _ hr hk => fin v h' tk bs hr hk
theorem cr_min1 (hc : X.calm = true) (hu : X.A.units + 64 < cLine) : CallR X (.builtin "min") (rMin1 X.K) := by
  intro pins s σ H vs us Q I r h
  obtain ⟨a, n, ns, rfl, hs, q⟩ := h
  rw [Vals.ref1 r]
  have fin : ∀ (v : Value) h' tk bs, PySem.Reads h' v (PySem.W.minD (.int n) (ns.map .int)) bs → (∀ b o, s.heap.get? b = some o → h'.get? b = some o) → ∃ x H', Inv X pins σ H' { s with heap := h', toks := tk } ∧ RelV x v ∧ Q x H' := by
    intro v h' tk bs hr hk
    rw [PySem.W.minD_ints] at hr
    cases hr with
    | int _ t => exact ⟨.int _, H, I.kept fun b o e => hk b o e, ⟨t, rfl⟩, q⟩
  rcases hs with hs | hs
  · obtain ⟨its, rv, hl, _⟩ := I.list hs
    exact PySem.W.min_list_data (I.ok.hd hc) hl.isList (readsAll_of rv.ints) (alike_ints (n :: ns)) (by rw [← List.map_cons, dep_ints]; omega) fun i v h' tk bs _ hr hk => fin v h' tk bs hr hk
  · obtain ⟨its, rv, ⟨ol, o1, o2, m, o3⟩, _⟩ := I.tuple hs
    exact PySem.W.min_tuple_data (I.ok.hd hc) ⟨ol, o1, o2, m, o3⟩ (readsAll_of rv.ints) (alike_ints (n :: ns)) (by rw [← List.map_cons, dep_ints]; omega) fun i v h' tk bs _ hr hk => fin v h' tk bs hr hk
def qMax1 : RLD := fun xs st Q => match xs with
  | [x] => (match (sitems st x).bind dints with | some (n :: ns) => Q (.d (.int (ns.foldl max n))) st | _ => False)
  | _ => False
def qMin1 : RLD := fun xs st Q => match xs with
  | [x] => (match (sitems st x).bind dints with | some (n :: ns) => Q (.d (.int (ns.foldl min n))) st | _ => False)
  | _ => False
theorem c_max1 (hc : X.calm = true) (hu : X.A.units + 64 < cLine) : ∃ r', CallR X (.builtin "max") r' ∧ SL X.K r' qMax1 := by
  refine ⟨_, cr_max1 hc hu, ?_⟩
  intro F H st vs xs Qd Q R rv h kk
  unfold qMax1 at h
  split at h
  rotate_left
  · exact h.elim
  obtain ⟨v, rfl, r⟩ := rvs1 rv
  split at h
  rotate_left
  · exact h.elim
  rename_i n ns e
  obtain ⟨l, e1, e2⟩ := Option.bind_eq_some_iff.mp e
  obtain ⟨p, ys, rfl, hq, s⟩ := sitems_rv R r e1
  obtain ⟨rfl, _⟩ := dints_rvs s e2
  exact ⟨p, n, ns, rfl, hq, kk.at R (.d (.int _)) h⟩
theorem c_min1 (hc : X.calm = true) (hu : X.A.units + 64 < cLine) : ∃ r', CallR X (.builtin "min") r' ∧ SL X.K r' qMin1 := by
  refine ⟨_, cr_min1 hc hu, ?_⟩
  intro F H st vs xs Qd Q R rv h kk
  unfold qMin1 at h
  split at h
  rotate_left
  · exact h.elim
  obtain ⟨v, rfl, r⟩ := rvs1 rv
  split at h
  rotate_left
  · exact h.elim
  rename_i n ns e
  obtain ⟨l, e1, e2⟩ := Option.bind_eq_some_iff.mp e
  obtain ⟨p, ys, rfl, hq, s⟩ := sitems_rv R r e1
  obtain ⟨rfl, _⟩ := dints_rvs s e2
  exact ⟨p, n, ns, rfl, hq, kk.at R (.d (.int _)) h⟩
end
end DL
end

section
set_option Elab.async false
set_option linter.all false
set_option maxRecDepth 100000
set_option maxHeartbeats 4000000
/-! sorted(set) -/
namespace BS
open PySem PySem.Spec L2 PyProof.Rows DL
theorem lt_lexL : ∀ x y : List Int, decide (x < y) = lexL x y
  | [], [] => by simp [lexL]
  | [], y :: ys => by simp [lexL]
  | x :: xs, [] => by simp [lexL]
  | x :: xs, y :: ys => by
    rw [lexL, ← lt_lexL xs ys]
    by_cases h : x < y <;> by_cases h2 : x = y <;> by_cases h3 : xs < ys <;> simp [List.cons_lt_cons_iff, h, h2, h3]
theorem data_lexL (x y : List Int) : PySem.W.dataLt (.tuple (x.map .int)) (.tuple (y.map .int)) = lexL x y := by
  rw [PySem.W.dataLt_tuple]
  exact (PySem.W.dataLt_ints x y).trans (lt_lexL x y)
theorem alike_ints2 : ∀ x y : List Int, PySem.W.alikeAll (x.map .int) (y.map .int) = true
  | [], _ => by simp [PySem.W.alikeAll]
  | _ :: _, [] => by simp [PySem.W.alikeAll]
  | x :: xs, y :: ys => by simp [PySem.W.alikeAll, PySem.W.alike, alike_ints2 xs ys]
abbrev encT (q : Addr × List Int) : PyData := .tuple (q.2.map .int)
theorem le_lexL (p q : Addr × List Int) : PySem.W.dataLe false encT p q = !lexL q.2 p.2 := by
  show (!PySem.W.dataLt (encT q) (encT p)) = _
  rw [data_lexL]
theorem le_tr (x y z : Addr × List Int) (h1 : PySem.W.dataLe false encT x y = true) (h2 : PySem.W.dataLe false encT y z = true) : PySem.W.dataLe false encT x z = true := by
  rw [le_lexL] at *
  simp only [Bool.not_eq_true'] at *
  rcases lexL_tri z.2 x.2 with h | h | h
  · rcases lexL_tri x.2 y.2 with k | k | k
    · rw [lexL_tr h k] at h2; cases h2
    · rw [← k, h] at h2; cases h2
    · rw [k] at h1; cases h1
  · rw [h]; exact lexL_irr _
  · exact Bool.eq_false_iff.mpr fun e => by have := lexL_tr e h; rw [lexL_irr] at this; cases this
theorem le_tot (x y : Addr × List Int) : (PySem.W.dataLe false encT x y || PySem.W.dataLe false encT y x) = true := by
  rw [le_lexL, le_lexL]
  cases h : lexL y.2 x.2 with
  | false => rfl
  | true =>
    cases k : lexL x.2 y.2 with
    | false => rfl
    | true => have := lexL_tr h k; rw [lexL_irr] at this; cases this
theorem each_of {R : Value → (Addr × List Int) → Prop} : ∀ (l : List (Addr × List Int)), (∀ q ∈ l, R (Value.ref q.1) q) → PySem.W.EachIs R (l.map fun q => Value.ref q.1) l
  | [], _ => .nil
  | q :: l, h => .cons (h q List.mem_cons_self) (each_of l fun r hr => h r (List.mem_cons_of_mem _ hr))
theorem of_each : ∀ {out : List Value} {l : List (Addr × List Int)}, PySem.W.EachIs (fun v q => v = Value.ref q.1) out l → out = l.map fun q => Value.ref q.1
  | _, _, .nil => rfl
  | _, _, .cons h r => by rw [h, of_each r]; rfl
section
variable {P : Program} {w : World} {A : Around} {E : Value → Shared → Prop} {s : Shared}
theorem sorted_B {a : Addr} {L : List (Addr × List Int)} {es : Array (Int × Value)} {ep : Nat} {t : SetTable} {Q : Value → Shared → Prop} (R : SetB P w s.heap a L es ep t) (hh : A.handled = none) (hfew : L.length < 4000) (hu : A.units + 64 < cLine)
    (hQ : ∀ s' p (out : Array Value) (c : Nat) (L' : List (Addr × List Int)), (∀ b o, s.heap.get? b = some o → s'.heap.get? b = some o) → s'.gens = s.gens → s'.os = s.os → s.heap.objs.size ≤ p →
      s'.heap.get? p = some (seqObj "list" out c) → out.toList = L'.map (fun q => Value.ref q.1) → L'.Perm L → L'.Pairwise (fun q r => lexL r.2 q.2 = false) → Q (.ref p) s') :
    wpAny (model P w) A (call (.builtin "sorted") [.ref a]) Q E s := by
  obtain ⟨o, ho, hex, hd⟩ := R.ob
  have hsz := rows_len R.rows
  refine Calls.call_function_entry kind_sorted plain_sorted entry_sorted (args_sorted1 _) ?_
  unfold Builtin.«sorted»
  refine wpAny_bind (m := checkCount "sorted" 1 1 _) (wpAny_pure ?_)
  refine wpAny_bind (collect_set (A := A.in1) hh ⟨o, ho, hex.1, hd⟩ R.fits (by unfold scanBound; omega) R.tab.ris R.led fun s1 vs k1 hz g1 o1 pm => ?_)
  have hes : es.toList.map (·.2) = L.map fun q => Value.ref q.1 := by
    rw [R.rows]
    unfold rowsOf
    rw [List.map_map]
    rfl
  rw [hes] at pm
  have one : ∀ q ∈ L, ∀ r ∈ L, q.1 = r.1 → q = r := fun q hq r hr e => by
    have a1 := R.tup q hq
    have a2 := R.tup r hr
    rw [e] at a1
    exact Prod.ext e (a1.inj a2)
  obtain ⟨L1, rfl, hs⟩ : ∃ L1 : List (Addr × List Int), vs = L1.map (fun q => Value.ref q.1) ∧ ∀ q ∈ L1, q ∈ L := by
    have : ∀ vs : List Value, (∀ v ∈ vs, ∃ q ∈ L, v = Value.ref q.1) → ∃ L1 : List (Addr × List Int), vs = L1.map (fun q => Value.ref q.1) ∧ ∀ q ∈ L1, q ∈ L := by
      intro vs
      induction vs with
      | nil => exact fun _ => ⟨[], rfl, fun q hq => nomatch hq⟩
      | cons v vs ih =>
        intro hv
        obtain ⟨q, hq, rfl⟩ := hv v List.mem_cons_self
        obtain ⟨L1, rfl, hs⟩ := ih fun u hu => hv u (List.mem_cons_of_mem _ hu)
        refine ⟨q :: L1, rfl, fun r hr => ?_⟩
        rcases List.mem_cons.mp hr with rfl | z
        · exact hq
        · exact hs r z
    exact this vs fun v hv => by
      obtain ⟨q, hq, e⟩ := List.mem_map.mp (pm.mem_iff.mp hv)
      exact ⟨q, hq, e.symm⟩
  have p1 : L1.Perm L := by
    have nL : L.Nodup := nodup_of_map R.nd
    have nref : (L.map fun q => Value.ref q.1).Nodup := List.pairwise_map.mpr (List.Pairwise.imp_of_mem (fun {q r} hq hr hne e => by
      injection e with e
      exact hne (one q hq r hr e)) nL)
    refine (List.perm_ext_iff_of_nodup (nodup_of_map (pm.nodup_iff.mpr nref)) nL).mpr fun q => ⟨hs q, fun hq => ?_⟩
    obtain ⟨r, hr, e⟩ := List.mem_map.mp (pm.mem_iff.mpr (List.mem_map.mpr ⟨q, hq, rfl⟩))
    injection e with e
    rw [← one r (hs r hr) q hq e]
    exact hr
  have hl1 := p1.length_eq
  refine wpAny_bind (wpAny_newList ?_ (by rw [sizeLine_eq, List.length_map]; omega))
  generalize hvs : (L1.map fun q => Value.ref q.1) = vs
  have hoL : (s1.heap.push (seqObj "list" vs.toArray 0)).get? s1.heap.objs.size = some (seqObj "list" vs.toArray 0) := Heap.get?_push_size _ rfl
  have rd : ∀ q ∈ L1, Reads (s1.heap.push (seqObj "list" vs.toArray 0)) (.ref q.1) (encT q) [] := fun q hq => by
    obtain ⟨ob, items, n, h1, h2, h3, h4⟩ := isT_keep (R.tup q (hs q hq)) fun b u e => Heap.get?_push_of_some _ (k1 b u e)
    exact .tuple h1 h2 h3 (readsAll_of (ints_of_items h4))
  refine wpAny_bind (wpAny_holding (BS.list_sort_X (s := { s1 with heap := s1.heap.push (seqObj "list" vs.toArray 0) }) (enc := encT) (bs := L1) (R := fun v q => v = Value.ref q.1) hoL (by rw [← hvs]; exact each_of L1 fun q _ => rfl) (by rw [← hvs]; exact each_of L1 fun q hq => ⟨[], by rw [hvs]; exact rd q hq, fun z => nomatch z⟩)
    (fun d hd d' hd' => ?_) (.inr fun d hd => ?_) (by rw [sizeLine_eq]; omega) (fun b hb => ?_) fun out a1 a2 => ?_))
  · obtain ⟨q, _, rfl⟩ := List.mem_map.mp hd
    obtain ⟨r, _, rfl⟩ := List.mem_map.mp hd'
    exact alike_ints2 q.2 r.2
  · obtain ⟨q, hq, rfl⟩ := List.mem_map.mp hd
    exact ⟨_, rfl⟩
  · have : (encT b).depth ≤ 1 := by
      simp only [encT, PyData.depth, dep_ints]
      omega
    show A.units + 1 + _ + _ < _
    omega
  · obtain ⟨c, hc⟩ := sortedHeap_at (vs := vs) (out := List.toArray out) hoL
    refine wpAny_pure ⟨_, rfl, hQ _ s1.heap.objs.size (List.toArray out) c (L1.mergeSort (PySem.W.dataLe false encT)) (fun b u e => ?_) g1 o1 hz hc (by simpa using of_each a2) ((List.mergeSort_perm _ _).trans p1) ?_⟩
    · have q := k1 b u e
      have hlt := Heap.lt_size q
      show (sortedHeap (s1.heap.push (seqObj "list" vs.toArray 0)) s1.heap.objs.size vs (List.toArray out)).get? b = some u
      rw [sortedHeap_old (Nat.ne_of_lt hlt) (by rw [size_push']; exact Nat.lt_succ_of_lt hlt)]
      exact Heap.get?_push_of_some _ q
    · refine List.Pairwise.imp (fun {q r} h => ?_) (List.pairwise_mergeSort le_tr le_tot L1)
      rw [le_lexL] at h
      simpa using h
end
end BS
end

section
set_option Elab.async false
set_option linter.all false
set_option maxRecDepth 100000
set_option maxHeartbeats 4000000
/-! sorted(set(x)), x a list or a tuple of fewer than 4000 tuples of ints, none empty -/
namespace BS
open PySem PySem.Spec L2 PyProof.Rows DL
def SetB0 (P : Program) (w : World) (h : Heap) (a : Addr) (L : List (Addr × List Int)) : Prop :=
  ∃ (es : Array (Int × Value)) (ep : Nat) (t : SetTable), (∃ o, h.get? a = some o ∧ o.ExactSet ∧ o.data = .set es ep t) ∧ es.toList = rowsOf P w L ∧ Tb t (L.map fun p => thash P w p.2) ∧ (L.map (·.2)).Nodup ∧ t.plain = true ∧
    (w.params.followText "set-order" = true ∨ t.led = true) ∧ L.length * 5 < t.mask * 3
def SetBO (P : Program) (w : World) (a : Addr) (L : List (Addr × List Int)) : HO := .ext fun h => SetB0 P w h a L
theorem SetB.b0 {P : Program} {w : World} {h : Heap} {a : Addr} {L : List (Addr × List Int)} {es : Array (Int × Value)} {ep : Nat} {t : SetTable} (R : SetB P w h a L es ep t) : SetB0 P w h a L := ⟨es, ep, t, R.ob, R.rows, R.tab, R.nd, R.plain, R.led, R.room⟩
theorem setBO_new {P : Program} {w : World} {H : Hp} {h : Heap} {a : Addr} {L : List (Addr × List Int)} (R : SetB0 P w h a L) : ObjOk P w H h a (SetBO P w a L) := by
  have ⟨es, ep, t, ⟨o, ho, r⟩, q⟩ := R
  refine ⟨R, ⟨o, ho⟩, fun h1 h2 p k => ?_⟩
  obtain ⟨es, ep, t, ⟨o, ho, r⟩, q⟩ := p
  exact ⟨es, ep, t, ⟨o, k o ho, r⟩, q⟩
section
variable {X : Cx}
def rSetB (K : PySem.W.Frag) (P : Program) (w : World) : List V → Hp → VK → Prop := fun xs H Q => ∃ (l : Addr) (ks : List (Addr × List Int)), xs = [V.ref l] ∧ (SqL K H l (ks.map fun p => V.ref p.1) ∨ SqT K H l (ks.map fun p => V.ref p.1)) ∧ (∀ p ∈ ks, SqT K H p.1 (p.2.map V.int)) ∧ ks.length < 4000 ∧
  ∀ a L, H a = none → (∀ p ∈ L, p ∈ ks) → (∀ p ∈ ks, p.2 ∈ L.map (·.2)) → L.length ≤ ks.length → Q (.ref a) (upd H a (SetBO P w a L))
theorem cr_setB (hc : X.calm = true) (hu : X.A.units + 64 < cLine) : CallR X (.type "set") (rSetB X.K X.prog X.w) := by
  intro pins s σ H xs us Q I r h
  obtain ⟨l, ks, rfl, hl, hk, hf, q⟩ := h
  rw [Vals.ref1 r]
  have hn : H s.heap.objs.size = none := I.hok.fresh (Nat.le_refl _)
  have fin : ∀ (h' : Heap) (tk : Nat) L es ep t, SetB X.prog X.w h' s.heap.objs.size L es ep t → Got ks ks.length L → (∀ b o, s.heap.get? b = some o → h'.get? b = some o) → ∃ x H', Inv X pins σ H' { s with heap := h', toks := tk } ∧ RelV x (.ref s.heap.objs.size) ∧ Q x H' := fun h' tk L es ep t R g k =>
    ⟨.ref s.heap.objs.size, upd H s.heap.objs.size (SetBO X.prog X.w s.heap.objs.size L), I.laid (t' := tk) k (Nat.le_refl _) (setBO_new R.b0), rfl, q _ L hn (fun p hp => List.mem_of_mem_take (g.sub p hp)) (fun p hp => g.all p (by rw [List.take_length]; exact hp)) g.len⟩
  rcases hl with hl | hl
  · obtain ⟨its, rv, pl, hz⟩ := I.list hl
    exact call_set_list (P := X.prog) (w := X.w) ks (I.ok.hd hc) pl.isList (by simpa using refs_of_vals rv) (fun p hp => I.isT (hk p hp)) hf (by omega) fin
  · obtain ⟨its, rv, ⟨ol, o1, o2, n, o3⟩, hz⟩ := I.tuple hl
    exact call_set_tuple (P := X.prog) (w := X.w) ks (I.ok.hd hc) ⟨ol, o1, o2, n, o3⟩ (by simpa using refs_of_vals rv) (fun p hp => I.isT (hk p hp)) hf (by omega) fin
def rSortedB (K : PySem.W.Frag) (P : Program) (w : World) : List V → Hp → VK → Prop := fun vs H Q => ∃ (a : Addr) (L : List (Addr × List Int)), vs = [V.ref a] ∧ H a = some (SetBO P w a L) ∧ (∀ p ∈ L, SqT K H p.1 (p.2.map V.int)) ∧ L.length < 4000 ∧
  ∀ (L' : List (Addr × List Int)) (p : Addr), L'.Perm L → (L'.map (·.2)).Nodup → L'.Pairwise (fun q r => lexL r.2 q.2 = false) → H p = none → Q (.ref p) (upd H p (.lst (L'.map fun q => V.ref q.1)))
theorem cr_sortedB (hc : X.calm = true) (hu : X.A.units + 64 < cLine) : CallR X (.builtin "sorted") (rSortedB X.K X.prog X.w) := by
  intro pins s σ H vs us Q I r h
  obtain ⟨a, L, rfl, ha, hk, hf, q⟩ := h
  obtain ⟨es, ep, t, r1, r2, r3, r4, r5, r6, r7⟩ : SetB0 X.prog X.w s.heap a L := (I.hok a _ ha).1
  rw [Vals.ref1 r]
  refine sorted_B (P := X.prog) (w := X.w) ⟨r1, r2, r3, r4, fun p hp => I.isT (hk p hp), r5, r6, r7⟩ (I.ok.hd hc) hf hu fun s' p out c L' k g o hp hg hout pm pw => ?_
  have hlen : (L'.map fun q => V.ref q.1).length ≤ sizeLine := by rw [List.length_map, sizeLine_eq, pm.length_eq]; omega
  have hn : H p = none := I.hok.fresh hp
  have hv : Vals (L'.map fun q => V.ref q.1) out.toList := by rw [hout]; exact vals_of_refs L'
  have J : Inv X pins σ (upd H p (.lst (L'.map fun q => V.ref q.1))) { s with heap := s'.heap, gens := s'.gens, drawn := s'.drawn, toks := s'.toks } :=
    I.call (ch := []) (Un.laid k hp hn) (I.hok.laid k hp ⟨hlen, out.toList, c, hv, hg⟩) (by rw [g]; exact I.bare) (fun _ z => nomatch z)
  have e : s' = { s with heap := s'.heap, gens := s'.gens, drawn := s'.drawn, toks := s'.toks } := by
    cases s'
    cases s
    cases o
    rfl
  rw [e]
  exact ⟨.ref p, _, J, rfl, q L' p pm ((pm.map (·.2)).nodup_iff.mpr r4) pw hn⟩
end
section
variable {P : Program} {w : World} {K : PySem.W.Frag} {mg : Str → Option Value} {base : Heap} {X : Cx} {N : List Str} {sc fs : Scope} {k : Nat}
/-- sorted(set(x)) -/
def qSortB (m : Bool) (te : TD) : TD := fun ε st Q => te ε st fun x s1 => match sitems s1 x with
  | some l => (match tints l with
    | some ts => ts.length < 4000 ∧ newL m ((sortU ts).map fun a => .d (.tuple (a.map .int))) s1 Q
    | none => False)
  | none => False
theorem de_sortB {e : Expr} {te : TD} {p p2 pos pos2 : Pos} (m : Bool) (c : Cok P w K mg base X N sc fs k) (hg : glB sc "sorted" = true) (hm : mg "sorted" = none) (hg2 : glB sc "set" = true) (hm2 : mg "set" = none) (ha : DE X e te)
    (he : starEach [e] X.env = (false, eval e X.env) :: starEach [] X.env := by rfl) : DE X (.Call (.Name "sorted" p) [.Call (.Name "set" p2) [e] [] pos2] [] pos) (qSortB m te) := by
  obtain ⟨t1, p1, a1⟩ := ha
  have g := gl_of c hg
  have g2 := gl_of c hg2
  have hc := c.calm
  refine ⟨⟨_, pe_callB (cr_sortedB hc c.hu65) g.1 (by rw [c.hmg]; exact hm) bb_sorted (pa_cons (pe_callTy (cr_setB hc c.hu65) g2.1 (by rw [c.hmg]; exact hm2) bt_set (pa_cons p1 pa_nil he) g2.2.1 g2.2.2 he rfl) pa_nil rfl) g.2.1 g.2.2 rfl rfl, fun F σ H ε st Qd Q R E h kk => ?_⟩⟩
  refine a1.go (W := fun x H1 => _) R E h kk fun F1 H1 s1 v y R1 E1 rv q kk => ?_
  split at q
  rotate_left
  · exact q.elim
  rename_i l el
  split at q
  rotate_left
  · exact q.elim
  rename_i ts et
  obtain ⟨hf, q⟩ := q
  obtain ⟨pa, vs, rfl, hq, s⟩ := sitems_rv R1 rv el
  obtain ⟨ks, rfl, rfl, hF⟩ := tints_rvs s et
  rw [List.length_map] at hf
  have hk : ∀ z ∈ ks, SqT X.K H1 z.1 (z.2.map V.int) := fun z hz => SqT.of (R1.sub _ _ (hF z hz)).1
  refine ⟨pa, ks, rfl, hq, hk, hf, fun a L ha h1 h2 hlen => ?_⟩
  obtain ⟨R2, S2⟩ := R1.hide (o := SetBO X.prog X.w a L) ha
  refine ⟨a, L, rfl, upd_same, fun z hz => SqT.of (R2.sub _ _ (hF z (h1 z hz))).1, by omega, fun L' pp pm nd pw hp => ?_⟩
  have hL : ∀ z ∈ L', z ∈ ks := fun z hz => h1 z (pm.mem_iff.mp hz)
  have e : sortU (ks.map (·.2)) = L'.map (·.2) := by
    refine sortU_eq ?_ fun x => ?_
    · refine List.pairwise_map.mpr ?_
      have nd' : L'.Pairwise fun q r => q.2 ≠ r.2 := List.pairwise_map.mp nd
      refine List.Pairwise.imp (fun {y z} hyz => ?_) (List.Pairwise.and nd' pw)
      rcases lexL_tri y.2 z.2 with e | e | e
      · exact e
      · exact absurd e hyz.1
      · rw [hyz.2] at e; cases e
    · constructor
      · intro hx
        obtain ⟨z, hz, rfl⟩ := List.mem_map.mp hx
        obtain ⟨z', hz', e⟩ := List.mem_map.mp (h2 z hz)
        exact List.mem_map.mpr ⟨z', pm.mem_iff.mpr hz', e⟩
      · intro hx
        obtain ⟨z, hz, rfl⟩ := List.mem_map.mp hx
        exact List.mem_map.mpr ⟨z, hL z hz, rfl⟩
  rw [e, List.map_map] at q
  refine new_lst R2 (m := m) ?_ hp q fun F' b H' b' st' S3 R3 r3 q3 => kk F' b H' b' st' (S2.trans S3) R3 r3 q3
  have : ∀ L'' : List (Addr × List Int), (∀ z ∈ L'', z ∈ ks) → RVs X.K F1 (L''.map fun q => V.ref q.1) (L''.map ((fun a => DV.d (.tuple (a.map .int))) ∘ (·.2))) := by
    intro L''
    induction L'' with
    | nil => exact fun _ => .nil
    | cons z r ih => exact fun hz => .cons (.d (.tup (hF z (hz z List.mem_cons_self)) (rp_all z.2))) (ih fun y hy => hz y (List.mem_cons_of_mem _ hy))
  exact this L' hL
end
end BS
end

section
set_option Elab.async false
set_option linter.all false
set_option maxRecDepth 100000
set_option maxHeartbeats 4000000
namespace DL
open PySem L2 PyProof.Rows
section
variable {P : Program} {w : World} {K : PySem.W.Frag} {mg : Str → Option Value} {base : Heap} {X : Cx} {N : List Str} {sc fs : Scope} {k : Nat}
/-- [e for x in a if .. for y in b if ..] -/
def qCompO (inv : Sto → Prop) (g : TDg) (tt : TDt) (ti1 : TDi) (g1 : TDg) (tt1 : TDt) (te : TD) (vs1 : List Nat) (ε : Env) (Kc : List DV → Sto → Prop) : List DV → List DV → Sto → Prop
  | [], acc, st => inv st ∧ Kc acc st
  | x :: r, acc, st => inv st ∧ g x ε st fun ε1 s1 => tt ε1 s1 fun b s2 => if b = true then ti1 ε1 s2 fun items1 inv1 s3 => acc.length + items1.length ≤ sizeLine ∧ qComp inv1 g1 tt1 te (wipeD ε1 vs1) (fun acc' s4 => qCompO inv g tt ti1 g1 tt1 te vs1 ε Kc r acc' s4) items1 acc s3
      else qCompO inv g tt ti1 g1 tt1 te vs1 ε Kc r acc s2
theorem qCompO_inv {inv : Sto → Prop} {g : TDg} {tt : TDt} {ti1 : TDi} {g1 : TDg} {tt1 : TDt} {te : TD} {vs1 : List Nat} {ε : Env} {Kc : List DV → Sto → Prop} {l acc : List DV} {st : Sto} (h : qCompO inv g tt ti1 g1 tt1 te vs1 ε Kc l acc st) : inv st := by
  cases l with
  | nil => exact h.1
  | cons x r => exact h.1
def qLc2 (m : Bool) (ti : TDi) (g : TDg) (tt : TDt) (ti1 : TDi) (g1 : TDg) (tt1 : TDt) (te : TD) (vs vs1 : List Nat) : TD := fun ε st Q => ti ε st fun items inv s1 => qCompO inv g tt ti1 g1 tt1 te vs1 (wipeD ε vs) (fun acc s2 => newL m acc s2 Q) items [] s1
theorem comp2_sim {wi wi1 : TI} {g g1 : TG} {tt tt1 : TT} {te : TE} {ti ti1 : TDi} {gd gd1 : TDg} {ttd ttd1 : TDt} {ted : TD} {m : Bool} {vs vs1 ws ws1 : List Nat} (hv : ∀ i ∈ ws, i ∈ vs) (hv1 : ∀ i ∈ ws1, i ∈ vs1)
    (a0 : ∀ F σ H ε st Qd R', Rs K F H st → RE K F σ ε → ti ε st Qd → (∀ F' J H' items inv st', Step F H st F' H' st' → Rs K F' H' st' → Src K F' J items inv → Qd items inv st' → R' J H') → wi σ H R')
    (a1 : ∀ F σ H ε st v x Qd Q, Rs K F H st → RE K F σ ε → RV K F v x → gd x ε st Qd → (∀ F' σ' H' ε' st', Step F H st F' H' st' → Rs K F' H' st' → RE K F' σ' ε' → (∀ vs : List Nat, (∀ i ∈ ws, i ∈ vs) → wipe σ' vs = wipe σ vs) → Qd ε' st' → Q σ' H') → g v σ H Q)
    (a2 : Sg relT K tt ttd)
    (b0 : ∀ F σ H ε st Qd R', Rs K F H st → RE K F σ ε → ti1 ε st Qd → (∀ F' J H' items inv st', Step F H st F' H' st' → Rs K F' H' st' → Src K F' J items inv → Qd items inv st' → R' J H') → wi1 σ H R')
    (b1 : ∀ F σ H ε st v x Qd Q, Rs K F H st → RE K F σ ε → RV K F v x → gd1 x ε st Qd → (∀ F' σ' H' ε' st', Step F H st F' H' st' → Rs K F' H' st' → RE K F' σ' ε' → (∀ vs : List Nat, (∀ i ∈ ws1, i ∈ vs) → wipe σ' vs = wipe σ vs) → Qd ε' st' → Q σ' H') → g1 v σ H Q)
    (b2 : Sg relT K tt1 ttd1) (a3 : Sg (RV K) K te ted) : Sg (RV K) K (tLc2 wi g tt wi1 g1 tt1 te vs vs1) (qLc2 m ti gd ttd ti1 gd1 ttd1 ted vs vs1) := by
  intro F σ H ε st Qd Q R E h kk
  refine a0 F σ H ε st _ _ R E h fun F1 J H1 items inv st1 s1 R1 src q => ?_
  intro D hD
  obtain ⟨f0, d0⟩ := R1.free hD
  obtain ⟨R1', s1'⟩ := R1.hide (o := .lst []) hD
  refine ⟨fun i mm H' => i ≤ items.length ∧ mm = items.length - i ∧ ∃ F' st' acc accD, Step F1 H1 st1 F' H' st' ∧ Rs K F' H' st' ∧ H' D = some (.lst acc) ∧ F' D = none ∧ st' D = none ∧ RVs K F' acc accD ∧ qCompO inv gd ttd ti1 gd1 ttd1 ted vs1 (wipeD ε vs) (fun acc s2 => newL m acc s2 Qd) (items.drop i) accD st',
    ⟨items.length, Nat.zero_le _, by omega, F1, st1, [], [], s1', R1', upd_same, f0, d0, .nil, by rw [List.drop_zero]; exact q⟩, ?_⟩
  rintro i mm H2 ⟨hi, rfl, F2, st2, acc, accD, s2, R2, hD2, f2, d2, r2, q2⟩
  have iv := qCompO_inv q2
  obtain ⟨src1, src2⟩ := src F2 H2 st2 s2.ex R2 iv
  by_cases hlt : i < items.length
  · have ed : items.drop i = items[i] :: items.drop (i + 1) := List.drop_eq_getElem_cons hlt
    rw [ed] at q2
    obtain ⟨go, yl⟩ := src1 i items[i] (List.getElem?_eq_getElem hlt)
    refine .inr ⟨go, fun H' => ∃ F' st' acc accD, Step F1 H1 st1 F' H' st' ∧ Rs K F' H' st' ∧ H' D = some (.lst acc) ∧ F' D = none ∧ st' D = none ∧ RVs K F' acc accD ∧ qCompO inv gd ttd ti1 gd1 ttd1 ted vs1 (wipeD ε vs) (fun acc s2 => newL m acc s2 Qd) (items.drop (i + 1)) accD st',
      fun H' q' => ⟨items.length - (i + 1), by omega, hlt, rfl, q'⟩, fun v H3 y => ?_⟩
    obtain ⟨F3, s3, R3, r3⟩ := yl v H3 y
    have E3 : RE K F3 (wipe σ vs) (wipeD ε vs) := (E.mono (s1.trans (s2.trans s3)).ex).wipe vs
    refine a1 F3 _ H3 _ st2 v items[i] _ _ R3 E3 r3 q2.2 fun F4 σ4 H4 ε4 st4 s4 R4 E4 w4 q4 => ?_
    refine ⟨(w4 vs hv).trans (comp_sim.wipe_idem σ vs), ?_⟩
    refine a2 F4 σ4 H4 ε4 st4 _ _ R4 E4 q4 fun F5 b H5 b' st5 s5 R5 rb q5 => ?_
    cases rb
    have s25 := s2.trans (s3.trans (s4.trans s5))
    obtain ⟨hD5, f5, d5⟩ := (s3.trans (s4.trans s5)).hid hD2 f2 d2
    have r5 := r2.mono (s3.trans (s4.trans s5)).ex
    cases b with
    | false => exact ⟨F5, st5, acc, accD, s25, R5, hD5, f5, d5, r5, q5⟩
    | true =>
      refine b0 F5 σ4 H5 ε4 st5 _ _ R5 (E4.mono s5.ex) q5 fun F6 J1 H6 items1 inv1 st6 s6 R6 srcB q6 => ?_
      obtain ⟨hsz, q6⟩ := q6
      have s26 := s25.trans s6
      obtain ⟨hD6, f6, d6⟩ := s6.hid hD5 f5 d5
      have al : acc.length = accD.length := r2.length
      refine ⟨fun j kk' H' => j ≤ items1.length ∧ kk' = items1.length - j ∧ ∃ F' st' acc' accD', Step F1 H1 st1 F' H' st' ∧ (∀ a o, F6 a = some o → F' a = some o) ∧ Rs K F' H' st' ∧ H' D = some (.lst acc') ∧ F' D = none ∧ st' D = none ∧ RVs K F' acc' accD' ∧ acc'.length ≤ acc.length + j ∧
          qComp inv1 gd1 ttd1 ted (wipeD ε4 vs1) (fun acc' s4 => qCompO inv gd ttd ti1 gd1 ttd1 ted vs1 (wipeD ε vs) (fun acc s2 => newL m acc s2 Qd) (items.drop (i + 1)) acc' s4) (items1.drop j) accD' st',
        ⟨items1.length, Nat.zero_le _, by omega, F6, st6, acc, accD, s26, fun _ _ z => z, R6, hD6, f6, d6, r5.mono s6.ex, by omega, by rw [List.drop_zero]; exact q6⟩, ?_⟩
      rintro j kk' H7 ⟨hj, rfl, F7, st7, acc', accD', s7, e7, R7, hD7, f7, d7, r7, l7, q7⟩
      have iv1 := qComp_inv q7
      obtain ⟨srcB1, srcB2⟩ := srcB F7 H7 st7 e7 R7 iv1
      by_cases hlt1 : j < items1.length
      · have ed1 : items1.drop j = items1[j] :: items1.drop (j + 1) := List.drop_eq_getElem_cons hlt1
        rw [ed1] at q7
        obtain ⟨go1, yl1⟩ := srcB1 j items1[j] (List.getElem?_eq_getElem hlt1)
        refine .inr ⟨go1, fun H' => ∃ F' st' acc' accD', Step F1 H1 st1 F' H' st' ∧ (∀ a o, F6 a = some o → F' a = some o) ∧ Rs K F' H' st' ∧ H' D = some (.lst acc') ∧ F' D = none ∧ st' D = none ∧ RVs K F' acc' accD' ∧ acc'.length ≤ acc.length + (j + 1) ∧
            qComp inv1 gd1 ttd1 ted (wipeD ε4 vs1) (fun acc' s4 => qCompO inv gd ttd ti1 gd1 ttd1 ted vs1 (wipeD ε vs) (fun acc s2 => newL m acc s2 Qd) (items.drop (i + 1)) acc' s4) (items1.drop (j + 1)) accD' st',
          fun H' q' => ⟨items1.length - (j + 1), by omega, hlt1, rfl, q'⟩, fun v H8 y => ?_⟩
        obtain ⟨F8, s8, R8, r8⟩ := yl1 v H8 y
        have E8 : RE K F8 (wipe σ4 vs1) (wipeD ε4 vs1) := ((E4.mono s5.ex).mono (fun a o z => s8.ex a o (e7 a o (s6.ex a o z)))).wipe vs1
        refine b1 F8 _ H8 _ st7 v items1[j] _ _ R8 E8 r8 q7.2 fun F9 σ9 H9 ε9 st9 s9 R9 E9 w9 q9 => ?_
        refine ⟨(w9 vs1 hv1).trans (comp_sim.wipe_idem σ4 vs1), ?_⟩
        refine b2 F9 σ9 H9 ε9 st9 _ _ R9 E9 q9 fun Fa b Ha b' sta sa Ra rb qa => ?_
        cases rb
        have s8a := s8.trans (s9.trans sa)
        obtain ⟨hDa, fa, da⟩ := s8a.hid hD7 f7 d7
        have ea := fun x o z => s8a.ex x o (e7 x o z)
        cases b with
        | true =>
          refine a3 Fa σ9 Ha ε9 sta _ _ Ra (E9.mono sa.ex) qa fun Fb yv Hb y' stb sb Rb ry qb => ?_
          obtain ⟨hDb, fb, db⟩ := sb.hid hDa fa da
          refine ⟨acc', hDb, by omega, Fb, stb, acc' ++ [yv], accD' ++ [y'], ((s7.trans s8a).trans sb).hput hD, fun x o z => sb.ex x o (ea x o z), Rb.hput fb db, upd_same, fb, db, (r7.mono (s8a.trans sb).ex).append (.cons ry .nil), by rw [List.length_append]; simp only [List.length_singleton]; omega, qb⟩
        | false => exact ⟨Fa, sta, acc', accD', s7.trans s8a, ea, Ra, hDa, fa, da, r7.mono s8a.ex, by omega, qa⟩
      · have e : j = items1.length := by omega
        subst e
        rw [List.drop_length] at q7
        exact .inl ⟨srcB2, F7, st7, acc', accD', s7, R7, hD7, f7, d7, r7, q7.2⟩
  · have e : i = items.length := by omega
    subst e
    rw [List.drop_length] at q2
    exact .inl ⟨src2, seen_lst s2 hD R2 hD2 f2 d2 r2 q2.2 (kk.step s1)⟩
theorem de_lc2 {elt tg iter tg1 iter1 : Expr} {ifs ifs1 : List Expr} {scope : Scope} {pos : Pos} {ti ti1 : TDi} {g g1 : TDg} {tt tt1 : TDt} {te : TD} {ws ws1 : List Nat} (m : Bool) (own : List (Str × Nat)) (vs1 : List Nat) (c : Cok P w K mg base X N sc fs k) (hb : blkC N sc scope own = true) (hw : ∀ i ∈ ws, i ∈ own.map (·.2)) (hw1 : ∀ i ∈ ws1, i ∈ vs1) (hv : ∀ i ∈ vs1, i ∈ own.map (·.2)) (hi : DI X tg iter ti)
    (hg : ∀ X', Cok P w K mg base X' N (relS scope sc) scope k → DG X' tg ws g) (ht : ∀ X', Cok P w K mg base X' N (relS scope sc) scope k → DTs X' ifs tt)
    (hi1 : ∀ X', Cok P w K mg base X' N (relS scope sc) scope k → DI X' tg1 iter1 ti1)
    (hg1 : ∀ X', Cok P w K mg base X' N (relS scope sc) scope k → DG X' tg1 ws1 g1) (ht1 : ∀ X', Cok P w K mg base X' N (relS scope sc) scope k → DTs X' ifs1 tt1)
    (he : ∀ X', Cok P w K mg base X' N (relS scope sc) scope k → DE X' elt te)
    (hs : ∀ x, foldedSetIterable iter X.env x = pure x := by intro _; rfl) (hs1 : ∀ env x, foldedSetIterable iter1 env x = pure x := by intro _ _; rfl) : DE X (.ListComp elt [⟨tg, iter, ifs, 0⟩, ⟨tg1, iter1, ifs1, 0⟩] scope pos) (qLc2 m ti g tt ti1 g1 tt1 te (own.map (·.2)) vs1) := by
  have ok : BlkOk X.N X.env.scope scope own := by
    rw [c.hN, c.hs]
    exact blkOk_by hb
  have cb := fun s H C cl fp => c.blk (scope := scope) ok.kind s H C cl fp
  obtain ⟨wi, p0, a0⟩ := hi
  refine ⟨⟨_, pe_lc2 (g := liftG X.K ws g) (tt := DL.lift relT X.K tt) (wi1 := liftI X.K ti1) (g1 := liftG X.K ws1 g1) (tt1 := DL.lift relT X.K tt1) (te := DL.lift (RV X.K) X.K te) (vs1 := vs1) c.calm (by rw [c.hN]; exact c.nd) p0 ok hv (fun s H C cl fp => (hg _ (cb s H C cl fp)).lift) (fun s H C cl fp => (ht _ (cb s H C cl fp)).lift)
      (fun s H C cl fp => (hi1 _ (cb s H C cl fp)).lift) (fun s H C cl fp => (hg1 _ (cb s H C cl fp)).lift) (fun s H C cl fp => (ht1 _ (cb s H C cl fp)).lift) (fun s H C cl fp => (he _ (cb s H C cl fp)).lift) hs hs1,
    comp2_sim hw hw1 a0 (fun F σ H ε st v x Qd Q R E r q kk => ⟨F, ε, st, x, Qd, R, E, r, q, kk⟩) lift_sg (fun F σ H ε st Qd R' R E q kk => ⟨F, ε, st, Qd, R, E, q, kk⟩) (fun F σ H ε st v x Qd Q R E r q kk => ⟨F, ε, st, x, Qd, R, E, r, q, kk⟩) lift_sg lift_sg⟩⟩
end
end DL
end

section
set_option Elab.async false
set_option linter.all false
set_option maxRecDepth 100000
set_option maxHeartbeats 4000000
namespace DL
open PySem L2 PyProof.Rows
section
variable {P : Program} {w : World} {K : PySem.W.Frag} {mg : Str → Option Value} {base : Heap} {X : Cx} {N : List Str} {sc fs : Scope} {k : Nat}
/-- f(e, ..), f a module's name of a built-in function -/
theorem de_fun {x : Str} {e : Expr} {es : List Expr} {ta : TDa} {p pos : Pos} {id : String} {r : RLD} (c : Cok P w K mg base X N sc fs k) (hg : glB sc x = true) (hm : mg x = some (.builtin id)) (hc : ∃ r', CallR X (.builtin id) r' ∧ SL X.K r' r)
    (ha : DA X (e :: es) ta) (he : starEach (e :: es) X.env = (false, eval e X.env) :: starEach es X.env := by rfl) (hpl : (backTo pos (starEach es X.env)).any (·.1) = false := by rfl) : DE X (.Call (.Name x p) (e :: es) [] pos) (qCB r ta) := by
  obtain ⟨t1, p1, a1⟩ := ha
  obtain ⟨r', h1, h2⟩ := hc
  have g := gl_of c hg
  refine ⟨⟨_, pe_callBfun h1 g.1 (by rw [c.hmg]; exact hm) p1 g.2.2 he hpl, fun F σ H ε st Qd Q R E h kk => a1.go R E h kk fun F1 H1 s1 v x R1 E1 rv q kk => h2 F1 H1 s1 v x _ _ R1 rv q kk⟩⟩
def rComb : List V → Hp → VK → Prop := fun vs H Q => ∃ a b : Int, vs = [.int a, .int b] ∧ 0 ≤ a ∧ 0 ≤ b ∧ a < 2 ^ 64 ∧ (b ≤ 9000 ∨ a ≤ 18000) ∧ Q (.int (PySem.W.mcComb a b)) H
theorem cr_comb : CallR X (.builtin "math.comb") rComb := by
  intro pins s σ H vs us Q I r h
  obtain ⟨a, b, rfl, h0, h1, h2, h3, q⟩ := h
  obtain ⟨t, u, rfl⟩ := Vals.int2 r
  exact PySem.W.mc_comb h0 h1 h2 h3 fun _ => ⟨.int _, H, I.tok _, ⟨_, rfl⟩, q⟩
def qComb : RLD := fun xs st Q => match xs with
  | [.d (.int a), .d (.int b)] => 0 ≤ a ∧ 0 ≤ b ∧ a < 2 ^ 64 ∧ (b ≤ 9000 ∨ a ≤ 18000) ∧ Q (.d (.int (PySem.W.mcComb a b))) st
  | _ => False
theorem c_comb : ∃ r', CallR X (.builtin "math.comb") r' ∧ SL X.K r' qComb := by
  refine ⟨_, cr_comb, ?_⟩
  intro F H st vs xs Qd Q R rv h kk
  unfold qComb at h
  split at h
  · obtain ⟨v, w, rfl, r1, r2⟩ := rvs2 rv
    cases rv_int r1
    cases rv_int r2
    exact ⟨_, _, rfl, h.1, h.2.1, h.2.2.1, h.2.2.2.1, kk.at R (.d (.int _)) h.2.2.2.2⟩
  · exact h.elim
def qGcd : RLD := fun xs st Q => match xs with
  | [.d (.int a), .d (.int b)] => Q (.d (.int ((Nat.gcd a.natAbs b.natAbs : Nat) : Int))) st
  | _ => False
theorem c_gcd : ∃ r', CallR X (.builtin "math.gcd") r' ∧ SL X.K r' qGcd := by
  refine ⟨_, cr_gcd, ?_⟩
  intro F H st vs xs Qd Q R rv h kk
  unfold qGcd at h
  split at h
  · obtain ⟨v, w, rfl, r1, r2⟩ := rvs2 rv
    cases rv_int r1
    cases rv_int r2
    exact ⟨_, _, rfl, kk.at R (.d (.int _)) h⟩
  · exact h.elim
end
end DL
end

section
set_option Elab.async false
set_option linter.all false
set_option maxRecDepth 100000
set_option maxHeartbeats 4000000
namespace DL
open PySem PySem.Spec L2 PyProof.Rows
section
variable {P : Program} {w : World} {K : PySem.W.Frag} {mg : Str → Option Value} {base : Heap} {X : Cx} {N : List Str} {sc fs : Scope} {k : Nat}
/-- list(range(e)) -/
def qListRg (m : Bool) (te : TD) : TD := fun ε st Q => te ε st fun x s1 => match x with
  | .d (.int n) => 0 ≤ n ∧ n ≤ 16777216 ∧ newL m (rngD 0 n.toNat) s1 Q
  | _ => False
theorem rg_rvs {F : Hp} (n : Int) : RVs K F (rgV 0 n) (rngD 0 n.toNat) := by
  unfold rgV rngD
  rw [Int.sub_zero]
  induction (List.range n.toNat) with
  | nil => exact .nil
  | cons i l ih => exact .cons (.d (.int _)) ih
theorem de_listRg {e : Expr} {te : TD} {p p2 pos pos2 : Pos} (m : Bool) (c : Cok P w K mg base X N sc fs k) (hg : glB sc "list" = true) (hm : mg "list" = none) (hg2 : glB sc "range" = true) (hm2 : mg "range" = none) (ha : DE X e te)
    (he : starEach [e] X.env = [(false, eval e X.env)] := by rfl) : DE X (.Call (.Name "list" p) [.Call (.Name "range" p2) [e] [] pos2] [] pos) (qListRg m te) := by
  obtain ⟨t1, p1, a1⟩ := ha
  have g := gl_of c hg
  have g2 := gl_of c hg2
  refine ⟨⟨_, pe_listRg c.calm g.1 (by rw [c.hmg]; exact hm) (prg_1 g2.1 (by rw [c.hmg]; exact hm2) p1 he) rfl, fun F σ H ε st Qd Q R E h kk => ?_⟩⟩
  refine a1.go (W := fun x H1 => _) R E h kk fun F1 H1 s1 v y R1 E1 rv q kk => ?_
  split at q
  · rename_i n
    cases rv_int rv
    obtain ⟨h1, h2, q⟩ := q
    exact ⟨n, rfl, RgOk.of_le (by omega) (by omega) (by omega) h1, fun pp hp => new_lst R1 (rg_rvs n) hp q kk⟩
  · exact q.elim
theorem flat_ints (ys : List Int) : (ys.map V.int).all flatV = true := by
  rw [List.all_map]
  exact List.all_eq_true.mpr fun _ _ => rfl
def rIxI (K : PySem.W.Frag) : V → List V → Hp → VK → Prop := fun x xs H Q => ∃ (p : Addr) (ys : List Int) (z : Int) (j : Nat), x = .ref p ∧ xs = [.int z] ∧ SqT K H p (ys.map V.int) ∧ ys[j]? = some z ∧ (∀ m, m < j → ys[m]? ≠ some z) ∧ Q (.int (j : Nat)) H
theorem mt_tixI : MtR X "tuple.index" (rIxI X.K) := by
  intro pins s σ H x xs v us Q I rx rs h
  obtain ⟨p, ys, z, j, rfl, rfl, hq, hy, hno, q⟩ := h
  cases rx
  obtain ⟨u, rfl, t, rfl⟩ := vals1 rs
  obtain ⟨its, r, ⟨⟨cls, dd, dt, sl⟩, ho, hc, n, hd⟩, hz⟩ := I.tuple hq
  cases hc
  cases hd
  have hl : its.toArray.size = ys.length := by rw [List.size_toArray, ← r.length, List.length_map]
  have hj : j < its.toArray.size := by rw [hl]; exact (List.getElem?_eq_some_iff.mp hy).1
  have at' : ∀ (m : Nat) (hm : m < its.toArray.size), ∃ y t', ys[m]? = some y ∧ its.toArray[m] = Value.int y t' := fun m hm => by
    have hm' : m < ys.length := by omega
    obtain ⟨w, hw, t', hw'⟩ := r.get (i := m) (x := .int ys[m]) (by simp [hm'])
    refine ⟨ys[m], t', List.getElem?_eq_getElem hm', ?_⟩
    rw [← hw', ← (List.getElem?_eq_some_iff.mp hw).2]
    simp
  refine call_meets PySem.F.slot_tuple_index ⟨_, ho, rfl⟩ PySem.F.entry_tuple_index (PySem.F.args_tuple_index_2 _ _) (TI.tuple_indexAt p its.toArray n dd sl (.int z t) (eqU (.int z)) j hj ?_ ?_)
    ⟨ho, fun w hw => mem_eqAt (x := .int z) ⟨t, rfl⟩ rfl r (flat_ints ys) w (by simpa using hw), ⟨.int (j : Nat), H, I.tok _, ⟨_, rfl⟩, q⟩⟩
  · obtain ⟨y, t', h1, h2⟩ := at' j hj
    rw [hy] at h1
    cases h1
    rw [h2]
    show (z == z) = true
    exact beq_self_eq_true z
  · intro m hm hmj
    obtain ⟨y, t', h1, h2⟩ := at' m hm
    rw [h2]
    show (y == z) = false
    exact beq_eq_false_iff_ne.mpr fun e => hno m hmj (e ▸ h1)
end
end DL
end

section
set_option Elab.async false
set_option linter.all false
set_option maxRecDepth 100000
set_option maxHeartbeats 4000000
/-! sorted(xs) of a list of data -/
namespace DL
open PySem PySem.Spec L2 PyProof.Rows
section
variable {X : Cx}
abbrev leD : PyData → PyData → Bool := PySem.W.dataLe false id
def rSortD (K : PySem.W.Frag) : List V → Hp → VK → Prop := fun vs H Q => ∃ (a : Addr) (bs : List (V × PyData)), vs = [V.ref a] ∧ SqL K H a (bs.map (·.1)) ∧ (∀ p ∈ bs, Dp K H p.1 p.2) ∧ PySem.W.AllAlike (bs.map (·.2)) ∧ BS.SortX (bs.map (·.2)) ∧ bs.length ≤ 100000 ∧ (∀ p ∈ bs, p.2.depth ≤ 16) ∧
  ∀ p : Addr, H p = none → Q (.ref p) (upd H p (.lst ((bs.mergeSort fun x y => leD x.2 y.2).map (·.1))))
theorem each_of_vals {R : Value → V × PyData → Prop} : ∀ {bs : List (V × PyData)} {us : List Value}, Vals (bs.map (·.1)) us → (∀ p ∈ bs, ∀ u, RelV p.1 u → R u p) → PySem.W.EachIs R us bs
  | [], _, h, _ => by cases h; exact .nil
  | p :: bs, _, h, k => by
    cases h with
    | cons r1 r2 => exact .cons (k p List.mem_cons_self _ r1) (each_of_vals r2 fun q hq => k q (List.mem_cons_of_mem _ hq))
theorem vals_of_each : ∀ {bs : List (V × PyData)} {us : List Value}, PySem.W.EachIs (fun u p => RelV p.1 u) us bs → Vals (bs.map (·.1)) us
  | [], _, h => by cases h; exact .nil
  | p :: bs, _, h => by
    cases h with
    | cons r1 r2 => exact .cons r1 (vals_of_each r2)
theorem cr_sortD (hc : X.calm = true) (hu : X.A.units + 64 < cLine) : CallR X (.builtin "sorted") (rSortD X.K) := by
  intro pins s σ H vs us Q I r h
  obtain ⟨a, bs, rfl, hs, hd, hal, hk, hl, hdep, q⟩ := h
  obtain ⟨its, rv, hil, _⟩ := I.list hs
  rw [Vals.ref1 r]
  have hz : bs.length ≤ sizeLine := by rw [sizeLine_eq]; omega
  refine BS.sorted_X (enc := fun p : V × PyData => p.2) (R := fun u p => RelV p.1 u) hil.isList (each_of_vals rv fun p _ u r => r) (each_of_vals rv fun p hp u r => Dp.reads I p.2 p.1 u (hd p hp) r) hal hk hz (fun p hp => by have := hdep p hp; omega) fun out ho e => ?_
  obtain ⟨ep, he'⟩ := PyProof.Rows.sortedAll_at s.heap its out.toArray
  have e2 : (bs.mergeSort (PySem.W.dataLe false fun p : V × PyData => p.2)) = bs.mergeSort fun x y => leD x.2 y.2 := rfl
  rw [e2] at e
  have hlen : ((bs.mergeSort fun x y => leD x.2 y.2).map (·.1)).length ≤ sizeLine := by rw [List.length_map, List.length_mergeSort]; exact hz
  exact ⟨.ref _, upd H (s.heap.objs.size + 1) (.lst ((bs.mergeSort fun x y => leD x.2 y.2).map (·.1))), I.laid (t' := s.toks) (fun _ _ => PyProof.Rows.sortedAll_old) (Nat.le_succ _) ⟨hlen, out, ep, vals_of_each e, he'⟩, rfl, q _ (I.hok.fresh (Nat.le_succ _))⟩
end
section
variable {P : Program} {w : World} {K : PySem.W.Frag} {mg : Str → Option Value} {base : Heap} {X : Cx} {N : List Str} {sc fs : Scope} {k : Nat}
/-- sorted(x) of a list of data -/
def qSortD (m : Bool) (te : TD) : TD := fun ε st Q => te ε st fun x s1 => match (litems s1 x).bind datas with
  | some ds => PySem.W.AllAlike ds ∧ BS.SortX ds ∧ ds.length ≤ 100000 ∧ (∀ d ∈ ds, d.depth ≤ 16) ∧ newL m ((ds.mergeSort leD).map .d) s1 Q
  | none => False
theorem de_sortD {e : Expr} {te : TD} {p pos : Pos} (m : Bool) (c : Cok P w K mg base X N sc fs k) (hg : glB sc "sorted" = true) (hm : mg "sorted" = none) (ha : DE X e te)
    (he : starEach [e] X.env = (false, eval e X.env) :: starEach [] X.env := by rfl) : DE X (.Call (.Name "sorted" p) [e] [] pos) (qSortD m te) := by
  obtain ⟨t1, p1, a1⟩ := ha
  have g := gl_of c hg
  have hc := c.calm
  refine ⟨⟨_, pe_callB (cr_sortD hc c.hu65) g.1 (by rw [c.hmg]; exact hm) bb_sorted (pa_cons p1 pa_nil he) g.2.1 g.2.2 he rfl, fun F σ H ε st Qd Q R E h kk => ?_⟩⟩
  refine a1.go (W := fun x H1 => _) R E h kk fun F1 H1 s1 v y R1 E1 rv q kk => ?_
  split at q
  rotate_left
  · exact q.elim
  rename_i ds ed
  obtain ⟨l, el, ed⟩ := Option.bind_eq_some_iff.mp ed
  obtain ⟨hal, hk, hl, hdep, q⟩ := q
  obtain ⟨pa, vs, rfl, hq, s⟩ := litems_rv R1 rv el
  have ed2 := datas_eq ed
  subst ed2
  have hall := s.all
  have hlen : vs.length = ds.length := by rw [s.length, List.length_map]
  have e1 : (vs.zip ds).map (·.1) = vs := by rw [List.map_fst_zip (by omega)]
  have e2 : (vs.zip ds).map (·.2) = ds := by rw [List.map_snd_zip (by omega)]
  have hdp : ∀ (vs : List V) (ds : List PyData), RpAll X.K F1 vs ds → ∀ z ∈ vs.zip ds, Rp X.K F1 z.1 z.2 := by
    intro vs
    induction vs with
    | nil => intro ds _ z hz; simp at hz
    | cons v vs ih =>
      intro ds h z hz
      cases h with
      | cons h1 h2 =>
        rcases List.mem_cons.mp (by simpa using hz) with rfl | hz
        · exact h1
        · exact ih _ h2 z hz
  have hz := hdp vs ds hall
  refine ⟨pa, vs.zip ds, rfl, by rw [e1]; exact hq, fun z hzm => (hz z hzm).dp (fun a o h => (R1.sub a o h).1), by rw [e2]; exact hal, by rw [e2]; exact hk, by rw [List.length_zip]; omega, fun z hzm => hdep _ (by rw [← e2]; exact List.mem_map.mpr ⟨z, hzm, rfl⟩), fun pp hp => ?_⟩
  have e3 : ((vs.zip ds).mergeSort fun x y => leD x.2 y.2).map (·.2) = ds.mergeSort leD := by
    rw [List.map_mergeSort (s := leD) (fun a _ b _ => rfl), e2]
  rw [← e3, List.map_map] at q
  refine new_lst R1 (m := m) ?_ hp q kk
  have : ∀ L : List (V × PyData), (∀ z ∈ L, z ∈ vs.zip ds) → RVs X.K F1 (L.map (·.1)) (L.map (DV.d ∘ (·.2))) := by
    intro L
    induction L with
    | nil => exact fun _ => .nil
    | cons z r ih => exact fun hzz => .cons (.d (hz z (hzz z List.mem_cons_self))) (ih fun y hy => hzz y (List.mem_cons_of_mem _ hy))
  exact this _ fun z hzz => (List.mergeSort_perm _ _).mem_iff.mp hzz
end
end DL
end

section
set_option Elab.async false
set_option linter.all false
set_option maxRecDepth 100000
set_option maxHeartbeats 4000000
/-! x in s: data in lists and tuples of data -/
namespace DL
open PySem PySem.Spec L2 PyProof.Rows
section
variable {X : Cx}
def rInX (K : PySem.W.Frag) (neg : Bool) : R2 := fun x y H Q => ∃ d ds, Dp K H x d ∧ (Dp K H y (.list ds) ∨ Dp K H y (.tuple ds)) ∧ d.canLay0 = true ∧ d.depth ≤ 32 ∧ PyData.canLayAll0 ds = true ∧ Q (.bl (if neg then !(ds.any fun z => PyData.eqv z d) else ds.any fun z => PyData.eqv z d)) H
theorem op_inX (hu : X.A.units + 64 < cLine) : OpR X (compareOp .In) (rInX X.K false) := by
  intro pins s σ H x y v u Q I rx ry h
  obtain ⟨d, ds, hd, he, sd, dd, se, q⟩ := h
  obtain ⟨as, r1⟩ := Dp.reads I d x v hd rx
  have room : X.A.units + 1 + min (PyData.depthAll ds) d.depth < cLine := by
    have := Nat.min_le_right (PyData.depthAll ds) d.depth
    omega
  rcases he with he | he
  · obtain ⟨bs, r2⟩ := Dp.reads I (.list ds) y u he ry
    exact SeqAt.in_list_reads r2 r1 se sd room ⟨.bl _, H, I, rfl, q⟩
  · obtain ⟨bs, r2⟩ := Dp.reads I (.tuple ds) y u he ry
    exact SeqAt.in_tuple_reads r2 r1 se sd room ⟨.bl _, H, I, rfl, q⟩
theorem op_notInX (hu : X.A.units + 64 < cLine) : OpR X (compareOp .NotIn) (rInX X.K true) := by
  intro pins s σ H x y v u Q I rx ry h
  obtain ⟨d, ds, hd, he, sd, dd, se, q⟩ := h
  obtain ⟨as, r1⟩ := Dp.reads I d x v hd rx
  have room : X.A.units + 1 + min (PyData.depthAll ds) d.depth < cLine := by
    have := Nat.min_le_right (PyData.depthAll ds) d.depth
    omega
  rcases he with he | he
  · obtain ⟨bs, r2⟩ := Dp.reads I (.list ds) y u he ry
    exact SeqAt.notIn_list_reads r2 r1 se sd room ⟨.bl _, H, I, rfl, q⟩
  · obtain ⟨bs, r2⟩ := Dp.reads I (.tuple ds) y u he ry
    exact SeqAt.notIn_tuple_reads r2 r1 se sd room ⟨.bl _, H, I, rfl, q⟩
def seqD : PyData → Option (List PyData)
  | .list ds => some ds
  | .tuple ds => some ds
  | _ => none
def qIn (neg : Bool) : R2D := fun x y st Q => match fz st x, (fz st y).bind seqD with
  | some d, some ds => d.canLay0 = true ∧ d.depth ≤ 32 ∧ PyData.canLayAll0 ds = true ∧ Q (.d (.bool (if neg then !(ds.any fun z => PyData.eqv z d) else ds.any fun z => PyData.eqv z d))) st
  | _, _ => False
theorem s2_in {K : PySem.W.Frag} {neg : Bool} : S2 K (rInX K neg) (qIn neg) := fun F H st v w x y Qd Q R rv rw' h kk => by
  unfold qIn at h
  split at h
  rotate_left
  · exact h.elim
  rename_i d ds e1 e2
  obtain ⟨c, e3, e4⟩ := Option.bind_eq_some_iff.mp e2
  obtain ⟨h1, h2, h3, q⟩ := h
  have hc := fz_dp R rw' e3
  refine ⟨d, ds, fz_dp R rv e1, ?_, h1, h2, h3, kk.at R (.d (.bl _)) q⟩
  cases c with
  | list l => cases e4; exact .inl hc
  | tuple l => cases e4; exact .inr hc
  | _ => cases e4
theorem op_qIn (hu : X.A.units + 64 < cLine) : ∃ r', OpR X (compareOp .In) r' ∧ S2 X.K r' (qIn false) := ⟨_, op_inX hu, s2_in⟩
theorem op_qNotIn (hu : X.A.units + 64 < cLine) : ∃ r', OpR X (compareOp .NotIn) r' ∧ S2 X.K r' (qIn true) := ⟨_, op_notInX hu, s2_in⟩
end
/-! what it says of whole numbers and of tuples of them -/
theorem any_int (a : List Int) (i : Int) : ((a.map PyData.int).any fun z => PyData.eqv z (.int i)) = decide (i ∈ a) := by
  rw [Bool.eq_iff_iff, List.any_map, List.any_eq_true, decide_eq_true_eq]
  constructor
  · rintro ⟨j, hj, h⟩
    simp only [Function.comp, PyData.eqv] at h
    have : j = i := by simpa using h
    rw [← this]
    exact hj
  · intro h
    exact ⟨i, h, by simp [Function.comp, PyData.eqv]⟩
theorem lay_ints (a : List Int) : PyData.canLayAll0 (a.map PyData.int) = true := by
  induction a with
  | nil => simp [PyData.canLayAll0]
  | cons x a ih => simp [PyData.canLayAll0, PyData.canLay0, ih]
theorem qIn_IT (neg : Bool) (i : Int) (a : List Int) (st : Sto) (Q : DV → Sto → Prop) : qIn neg (.d (.int i)) (.d (.tuple (a.map .int))) st Q = Q (.d (.bool (if neg then !decide (i ∈ a) else decide (i ∈ a)))) st := by
  unfold qIn
  simp only [fz, Option.bind_some, seqD, any_int, lay_ints, PyData.canLay0, PyData.depth, Nat.zero_le, true_and]
theorem qIn_IL (neg : Bool) (i : Int) (a : List Int) (st : Sto) (Q : DV → Sto → Prop) : qIn neg (.d (.int i)) (.d (.list (a.map .int))) st Q = Q (.d (.bool (if neg then !decide (i ∈ a) else decide (i ∈ a)))) st := by
  unfold qIn
  simp only [fz, Option.bind_some, seqD, any_int, lay_ints, PyData.canLay0, PyData.depth, Nat.zero_le, true_and]
theorem eqvAll_ints : ∀ a b : List Int, PyData.eqvAll (a.map .int) (b.map .int) = decide (a = b)
  | [], [] => by simp [PyData.eqvAll]
  | [], y :: ys => by simp [PyData.eqvAll]
  | x :: xs, [] => by simp [PyData.eqvAll]
  | x :: xs, y :: ys => by
    rw [List.map_cons, List.map_cons, PyData.eqvAll, eqvAll_ints xs ys, PyData.eqv]
    by_cases h1 : x = y <;> by_cases h2 : xs = ys <;> simp [h1, h2]
theorem any_tup (l : List (List Int)) (a : List Int) : ((l.map fun b => PyData.tuple (b.map .int)).any fun z => PyData.eqv z (.tuple (a.map .int))) = decide (a ∈ l) := by
  rw [Bool.eq_iff_iff, List.any_map, List.any_eq_true, decide_eq_true_eq]
  constructor
  · rintro ⟨b, hb, h⟩
    simp only [Function.comp, PyData.eqv, eqvAll_ints, decide_eq_true_eq] at h
    rw [← h]
    exact hb
  · intro h
    exact ⟨a, h, by simp only [Function.comp, PyData.eqv, eqvAll_ints, decide_true]⟩
theorem lay_tups (l : List (List Int)) : PyData.canLayAll0 (l.map fun b => PyData.tuple (b.map .int)) = true := by
  induction l with
  | nil => simp [PyData.canLayAll0]
  | cons x a ih => simp only [List.map_cons, PyData.canLayAll0, PyData.canLay0, ih, lay_ints, Bool.and_self]
theorem dep_tup (a : List Int) : (PyData.tuple (a.map .int)).depth ≤ 32 := by
  have : PyData.depthAll (a.map .int) = 0 := dep_ints a
  simp only [PyData.depth, this]
  omega
theorem qIn_TT (neg : Bool) (a : List Int) (l : List (List Int)) (st : Sto) (Q : DV → Sto → Prop) : qIn neg (.d (.tuple (a.map .int))) (.d (.tuple (l.map fun b => .tuple (b.map .int)))) st Q = Q (.d (.bool (if neg then !decide (a ∈ l) else decide (a ∈ l)))) st := by
  have h := dep_tup a
  unfold qIn
  simp only [fz, Option.bind_some, seqD, any_tup, lay_tups, lay_ints, PyData.canLay0, h, true_and]
theorem qIn_TL (neg : Bool) (a : List Int) (l : List (List Int)) (st : Sto) (Q : DV → Sto → Prop) : qIn neg (.d (.tuple (a.map .int))) (.d (.list (l.map fun b => .tuple (b.map .int)))) st Q = Q (.d (.bool (if neg then !decide (a ∈ l) else decide (a ∈ l)))) st := by
  have h := dep_tup a
  unfold qIn
  simp only [fz, Option.bind_some, seqD, any_tup, lay_tups, lay_ints, PyData.canLay0, h, true_and]
end DL
end

section
set_option Elab.async false
set_option linter.all false
set_option maxRecDepth 100000
set_option maxHeartbeats 2000000
/-! dicts with tuples as keys: a display of one pair, list(d), sorted(d), d.get, d.items() -/
namespace L2
open PySem PySem.Spec PyProof.Rows
/-- {k: v}, k a tuple of ints and texts; the new dict stands empty while the pair is made -/
def tDisp1T (tk tv : TE) : TE := fun σ H Q => ∀ p, H p = none → tk σ (upd H p (.dT [])) fun x H1 => tv σ H1 fun y H2 => H2 p = some (.dT []) ∧ ∃ (b : Addr) (k : List Key), x = .ref b ∧ H2 b = some (.tup (k.map kV)) ∧ Q (.ref p) (upd H2 p (.dT [(k, y)]))
theorem pe_disp1T {X : Cx} {pos : Pos} {ke ve : Expr} {tk tv : TE} (hu : X.A.units + 1 < cLine) (hk : PE X ke tk) (hv : PE X ve tv) : PE X (.Dict [some ke] [ve] pos) (tDisp1T tk tv) := by
  refine ⟨fun pins s σ H Q I q => ?_⟩
  have hn := I.hok.fresh (Nat.le_refl s.heap.objs.size)
  have I1 := I.laid (a := s.heap.objs.size) (o := .dT []) (h' := s.heap.push { cls := .type "dict", data := .dict #[] }) (t' := s.toks) (fun _ _ q => Heap.get?_push_of_some _ q) (Nat.le_refl _) (dt_empty s.heap I.big)
  refine wpAny_Dict_any rfl rfl (fun h => nomatch h) (show 1 ≤ 15 by decide) (pairTrees_cons_walk (thn (hk.run pins _ σ _ _ I1 (q _ hn)) fun u s1 ⟨x, H1, J1, rx, q1⟩ => thn (hv.run pins s1 σ H1 _ J1 q1) fun w2 s2 ⟨y, H2, J2, ry, e, b, k, ex, eb, q2⟩ => pairTrees_nil_walk ?_))
  subst ex
  cases (show u = Value.ref b from rx)
  obtain ⟨z, hd, xs, rel, dd⟩ := dt_of J2.hok e
  cases rel
  unfold storeAll
  rw [List.forIn_cons]
  refine wpAny_bind (wpAny_bind (wpAny_dictSet_heap (hsz := by simp) (show X.A.units < cLine from Nat.lt_of_succ_lt hu) (key_of J2.hok eb) dd fun h' dd' hs => wpAny_pure ?_))
  refine wpAny_pure ⟨.ref s.heap.objs.size, _, ?_, rfl, q2⟩
  obtain ⟨ob, es, ep, hq, h2, h3, h4, _, h5⟩ := dd'
  have rel1 : KT H2 [(k, y)] [(k, b, w2)] := Paired.cons ⟨rfl, eb, ry⟩ .nil
  refine d_write J2 (by rw [e]; exact True.intro) hs ⟨ob, hq⟩ ⟨(show 1 ≤ sizeLine by rw [sizeLine_eq]; decide), hd, _, KT.keeps rel1 fun c ys ec => ?_, ob, es, ep, hq, h2, h3, h4, h5⟩
  rw [upd_ne (ne_of ec e (fun z => nomatch z))]
  exact ec
end L2
namespace DTK
open PySem PySem.W PySem.Calls PyProof.Rows PyProof.V PySem.Spec
section
variable {prog : Program} {w : World} {A : Around} {E : Value → Shared → Prop} {s : Shared} {T : String} {r d : Addr} {n : Nat} {P : Nat → Value → Prop} {OK : Heap → Prop}
theorem collectK {R : List Value → Shared → Prop} (K : PySem.W.KdlSrc prog w T r d n P OK) (hh : A.handled = none) (hok : OK s.heap) (hn : n ≤ sizeLine)
    (h : ∀ (h' : Heap) (tk : Nat) (acc : Array Value), (∀ b o, s.heap.get? b = some o → h'.get? b = some o) → s.heap.objs.size < h'.objs.size → ItemsOf P acc n → R acc.toList { s with heap := h', toks := tk }) :
    wpAny (model prog w) A (collect (.ref r)) R E s := by
  have hr : r < s.heap.objs.size := (K.there _ hok).1
  have hd : d < s.heap.objs.size := (K.there _ hok).2
  unfold collect
  refine wpAny_bind (wpAny_runValue (codeAny_builtin entry_proto_collect' ?_))
  rw [Around.under_plainId PySem.F.plain_proto_collect _]
  show wpAny _ A.in1 (newList [] >>= fun l => again (.builtin "list.__iadd__" ⟨[l, .ref r], []⟩)) _ _ s
  refine wpAny_bind (wpAny_newObj_type ?_)
  refine wpAny_pure ⟨plainId_quiet PySem.F.plain_list_iadd _, codeAny_builtin entry_list_iadd' ?_⟩
  rw [Around.under_plainId PySem.F.plain_list_iadd _]
  have hS₁ : (s.heap.push { cls := .type "list", data := .seq ([] : List Value).toArray }).get? s.heap.objs.size = some { cls := .type "list", data := .seq #[] } := Heap.get?_push_size _ rfl
  show wpAny _ A.in1 (Builtin.List.listExtendWith (.ref s.heap.objs.size) (.ref r) (.ref s.heap.objs.size)) _ _ _
  have key := PySem.W.kdl_extend (prog := prog) (w := w) (A := A) (s := { s with heap := s.heap.push { cls := .type "list", data := .seq ([] : List Value).toArray } })
    (R := fun (q : Result) (s' : Shared) => ∃ (h' : Heap) (tk : Nat) (acc' : Array Value) (c' : Nat), q = .ok (.ret (.ref s.heap.objs.size)) ∧ s' = { s with heap := h', toks := tk } ∧
      (∀ b o, s.heap.get? b = some o → h'.get? b = some o) ∧ h'.get? s.heap.objs.size = some { cls := .type "list", dict := none, data := .seq acc' c', slots := #[] } ∧ ItemsOf P acc' n)
    K hh (K.keep _ _ hok fun b _ o e => Heap.get?_push_of_some _ e) s.heap.objs.size (Nat.ne_of_gt hr) (Nat.ne_of_gt hd) (.ref s.heap.objs.size) 0 hS₁
    (fun h' tk acc' c' hk hS' hI => ⟨h', tk, acc', c', rfl, rfl, fun b o e => hk b o (Nat.ne_of_lt (Heap.lt_size e)) (Heap.get?_push_of_some _ e), hS', hI⟩) hn
  refine wpAny_mono key (fun fin s' x => ?_) fun e s' x => ?_
  · cases fin with
    | done f =>
      obtain ⟨h', tk, acc', c', e, rfl, hk, hS', hI⟩ := x
      cases e
      show wpAny _ A (load s.heap.objs.size >>= _) _ _ _
      refine wpAny_bind (wpAny_load hS' ?_)
      refine wpAny_pure ?_
      exact h h' tk acc' hk (Heap.lt_size hS') hI
    | again c₁ =>
      refine ⟨x.1, codeAny_mono x.2 fun q s₂ y => ?_⟩
      obtain ⟨h', tk, acc', c', rfl, rfl, hk, hS', hI⟩ := y
      show wpAny _ A (load s.heap.objs.size >>= _) _ _ _
      refine wpAny_bind (wpAny_load hS' ?_)
      refine wpAny_pure ?_
      exact h h' tk acc' hk (Heap.lt_size hS') hI
  · obtain ⟨_, _, _, _, e', _⟩ := x
    cases e'
end
end DTK
namespace BS
open PySem PySem.Spec L2 PyProof.Rows DL
section
variable {P : Program} {w : World} {A : Around} {E : Value → Shared → Prop} {s : Shared}
/-- sorted(d), d a dict with tuples of ints as keys -/
theorem sorted_D {a : Addr} {L : List (Addr × List Int)} {I : Nat → Value → Prop} {OK : Heap → Prop} {Q : Value → Shared → Prop} (K : PySem.W.KdlSrc P w "dict" a a L.length I OK) (hok : OK s.heap) (hI : ∀ i v, I i v → ∃ q, L[i]? = some q ∧ v = Value.ref q.1)
    (tup : ∀ q ∈ L, IsT P w s.heap q.2 q.1) (hh : A.handled = none) (hfew : L.length < 4000) (hu : A.units + 64 < cLine)
    (hQ : ∀ (h' : Heap) (tk : Nat) p (out : Array Value) (c : Nat) (L' : List (Addr × List Int)), (∀ b o, s.heap.get? b = some o → h'.get? b = some o) → s.heap.objs.size ≤ p →
      h'.get? p = some (seqObj "list" out c) → out.toList = L'.map (fun q => Value.ref q.1) → L'.Perm L → L'.Pairwise (fun q r => lexL r.2 q.2 = false) → Q (.ref p) { s with heap := h', toks := tk }) :
    wpAny (model P w) A (call (.builtin "sorted") [.ref a]) Q E s := by
  refine Calls.call_function_entry kind_sorted plain_sorted entry_sorted (args_sorted1 _) ?_
  unfold Builtin.«sorted»
  refine wpAny_bind (m := checkCount "sorted" 1 1 _) (wpAny_pure ?_)
  refine wpAny_bind (DTK.collectK (A := A.in1) K hh hok (by rw [sizeLine_eq]; omega) fun h1 tk acc k1 hz hit => ?_)
  have hvs : acc.toList = L.map fun q => Value.ref q.1 := by
    apply List.ext_getElem?
    intro j
    rw [List.getElem?_map]
    cases hj : acc.toList[j]? with
    | none =>
      have h1 := List.getElem?_eq_none_iff.mp hj
      rw [Array.length_toList, hit.1] at h1
      rw [List.getElem?_eq_none h1]
      rfl
    | some v =>
      obtain ⟨q, hq, rfl⟩ := hI j v (hit.2 j v (by rw [← Array.getElem?_toList]; exact hj))
      rw [hq]
      rfl
  rw [hvs]
  refine wpAny_bind (wpAny_newList ?_ (by rw [sizeLine_eq, List.length_map]; omega))
  generalize hv : (L.map fun q => Value.ref q.1) = vs
  have hoL : (h1.push (seqObj "list" vs.toArray 0)).get? h1.objs.size = some (seqObj "list" vs.toArray 0) := Heap.get?_push_size _ rfl
  have rd : ∀ q ∈ L, Reads (h1.push (seqObj "list" vs.toArray 0)) (.ref q.1) (encT q) [] := fun q hq => by
    obtain ⟨ob, items, n, h2, h3, h4, h5⟩ := isT_keep (tup q hq) fun b u e => Heap.get?_push_of_some _ (k1 b u e)
    exact .tuple h2 h3 h4 (readsAll_of (ints_of_items h5))
  refine wpAny_bind (wpAny_holding (BS.list_sort_X (s := { s with heap := h1.push (seqObj "list" vs.toArray 0), toks := tk }) (enc := encT) (bs := L) (R := fun v q => v = Value.ref q.1) hoL (by rw [← hv]; exact each_of L fun q _ => rfl) (by rw [← hv]; exact each_of L fun q hq => ⟨[], by rw [hv]; exact rd q hq, fun z => nomatch z⟩)
    (fun d hd d' hd' => ?_) (.inr fun d hd => ?_) (by rw [sizeLine_eq]; omega) (fun b hb => ?_) fun out a1 a2 => ?_))
  · obtain ⟨q, _, rfl⟩ := List.mem_map.mp hd
    obtain ⟨r, _, rfl⟩ := List.mem_map.mp hd'
    exact alike_ints2 q.2 r.2
  · obtain ⟨q, hq, rfl⟩ := List.mem_map.mp hd
    exact ⟨_, rfl⟩
  · have : (encT b).depth ≤ 1 := by
      simp only [encT, PyData.depth, dep_ints]
      omega
    show A.units + 1 + _ + _ < _
    omega
  · obtain ⟨c, hc⟩ := sortedHeap_at (vs := vs) (out := List.toArray out) hoL
    refine wpAny_pure ⟨_, rfl, hQ _ _ h1.objs.size (List.toArray out) c (L.mergeSort (PySem.W.dataLe false encT)) (fun b u e => ?_) (Nat.le_of_lt hz) hc (by simpa using of_each a2) (List.mergeSort_perm _ _) ?_⟩
    · have q := k1 b u e
      have hlt := Heap.lt_size q
      show (sortedHeap (h1.push (seqObj "list" vs.toArray 0)) h1.objs.size vs (List.toArray out)).get? b = some u
      rw [sortedHeap_old (Nat.ne_of_lt hlt) (by rw [size_push']; exact Nat.lt_succ_of_lt hlt)]
      exact Heap.get?_push_of_some _ q
    · refine List.Pairwise.imp (fun {q r} h => ?_) (List.pairwise_mergeSort le_tr le_tot L)
      rw [le_lexL] at h
      simpa using h
end
section
variable {X : Cx}
def keyInt : Key → Int
  | .inl i => i
  | .inr _ => 0
theorem keyInts_inl (ns : List Int) : (ns.map Sum.inl : List Key).map keyInt = ns := by
  induction ns with
  | nil => rfl
  | cons n ns ih => rw [List.map_cons, List.map_cons, ih]; rfl
theorem kV_inl (ns : List Int) : (ns.map Sum.inl : List Key).map kV = ns.map V.int := by
  induction ns with
  | nil => rfl
  | cons n ns ih => rw [List.map_cons, List.map_cons, List.map_cons, ih]; rfl
def IntKeys {β : Type} (kvs : List (List Key × β)) : Prop := ∀ p ∈ kvs, ∃ ns : List Int, p.1 = ns.map Sum.inl
def rSortedDT : List V → Hp → VK → Prop := fun vs H Q => ∃ (a : Addr) (kvs : List (List Key × V)), vs = [V.ref a] ∧ H a = some (.dT kvs) ∧ IntKeys kvs ∧ kvs.length < 4000 ∧
  ∀ (L' : List (Addr × List Int)) (p : Addr), (∀ q ∈ L', H q.1 = some (.tup (q.2.map V.int))) → (L'.map (·.2)).Perm (kvs.map fun x => x.1.map keyInt) → (L'.map (·.2)).Nodup → L'.Pairwise (fun q r => lexL r.2 q.2 = false) → H p = none → Q (.ref p) (upd H p (.lst (L'.map fun q => V.ref q.1)))
theorem cr_sortedDT (hc : X.calm = true) (hu : X.A.units + 64 < cLine) : CallR X (.builtin "sorted") rSortedDT := by
  intro pins s σ H vs us Q I r h
  obtain ⟨d, kvs, rfl, hd, hik, hf, q⟩ := h
  obtain ⟨u, rfl, rx⟩ := r.one
  cases rx
  obtain ⟨z, hs, ks, pr, o, es, ep, ho, hx, hdt, he, hn⟩ := (show ObjOk X.prog X.w H s.heap d (.dT kvs) from I.hok d _ hd)
  have l1 : es.size = ks.length := size_of_entries he
  have l2 : kvs.length = ks.length := Paired.length pr
  have hmem : ∀ x ∈ ks, ∃ p ∈ kvs, p.1 = x.1 ∧ H x.2.1 = some (.tup (p.1.map kV)) := by
    have key : ∀ {l : List (List Key × V)} {m : List (List Key × Addr × Value)}, KT H l m → ∀ x ∈ m, ∃ p ∈ l, p.1 = x.1 ∧ H x.2.1 = some (.tup (p.1.map kV)) := by
      intro l m q
      induction q with
      | nil => exact fun x hx => nomatch hx
      | @cons p y ps qs hq t ih =>
        intro x hx
        rcases List.mem_cons.mp hx with e | hx
        · subst e; exact ⟨p, List.mem_cons_self, hq.1, hq.2.1⟩
        · obtain ⟨p', hp', e⟩ := ih x hx
          exact ⟨p', List.mem_cons_of_mem _ hp', e⟩
    exact key pr
  have hkeys : ks.map (fun x => x.1) = kvs.map (·.1) := by
    have key : ∀ {l : List (List Key × V)} {m : List (List Key × Addr × Value)}, KT H l m → m.map (fun x => x.1) = l.map (·.1) := by
      intro l m q
      induction q with
      | nil => rfl
      | @cons p y ps qs hq t ih => rw [List.map_cons, List.map_cons, ih, hq.1]
    exact key pr
  let L : List (Addr × List Int) := ks.map fun x => (x.2.1, x.1.map keyInt)
  have hL : L.length = ks.length := List.length_map ..
  have hHL : ∀ q ∈ L, H q.1 = some (.tup (q.2.map V.int)) := fun q hq => by
    obtain ⟨x, hx, rfl⟩ := List.mem_map.mp hq
    obtain ⟨p, hp, e1, e2⟩ := hmem x hx
    obtain ⟨ns, en⟩ := hik p hp
    show H x.2.1 = some (.tup ((x.1.map keyInt).map V.int))
    rw [e2, ← e1, en, keyInts_inl, kV_inl]
  have hLn : (L.map (·.2)).Nodup := by
    show ((ks.map fun x => (x.2.1, x.1.map keyInt)).map (·.2)).Nodup
    rw [List.map_map]
    have e : ks.map ((fun q : Addr × List Int => q.2) ∘ fun x : List Key × Addr × Value => (x.2.1, x.1.map keyInt)) = (ks.map fun x => x.1).map fun k => k.map keyInt := by
      rw [List.map_map]
      rfl
    rw [e]
    refine List.pairwise_map.mpr (List.Pairwise.imp_of_mem (fun {a b} ha hb hne e => hne ?_) (show (ks.map fun x => x.1).Nodup from hn))
    rw [hkeys] at ha hb
    obtain ⟨p, hp, rfl⟩ := List.mem_map.mp ha
    obtain ⟨p', hp', rfl⟩ := List.mem_map.mp hb
    obtain ⟨ns, en⟩ := hik p hp
    obtain ⟨ns', en'⟩ := hik p' hp'
    rw [en, en', keyInts_inl, keyInts_inl] at e
    rw [en, en', e]
  have K := kdl_raw (prog := X.prog) (w := X.w) hs hx hdt
  rw [show es.size = L.length from l1.trans hL.symm] at K
  refine sorted_D (P := X.prog) (w := X.w) (L := L) K ho (fun i v ⟨en, hen, hv⟩ => ?_) (fun q hq => I.isT (SqT.of (hHL q hq))) (I.ok.hd hc) (by omega) hu fun h' tk p out c L' k hp hg hout pm pw => ?_
  · have qe := entry_at he i
    rw [hen] at qe
    cases hb : ks[i]? with
    | none =>
      rw [hb] at qe
      exact nomatch (show some en = none from qe)
    | some b =>
      rw [hb] at qe
      have e2 : en = entryOfKey (tupleKind (mixKind X.prog X.w)) b := Option.some.inj qe
      refine ⟨(b.2.1, b.1.map keyInt), ?_, by rw [hv, e2]; rfl⟩
      show (ks.map fun x => (x.2.1, x.1.map keyInt))[i]? = _
      rw [List.getElem?_map, hb]
      rfl
  · have hlen : (L'.map fun q => V.ref q.1).length ≤ sizeLine := by rw [List.length_map, sizeLine_eq, pm.length_eq]; omega
    have hn' : H p = none := I.hok.fresh hp
    have hv : Vals (L'.map fun q => V.ref q.1) out.toList := by rw [hout]; exact vals_of_refs L'
    refine ⟨.ref p, _, I.laid (t' := tk) (o := .lst (L'.map fun q => V.ref q.1)) k hp ⟨hlen, out.toList, c, hv, hg⟩, rfl, q L' p (fun y hy => hHL y (pm.mem_iff.mp hy)) ?_ ((pm.map (·.2)).nodup_iff.mpr hLn) pw hn'⟩
    refine (pm.map (·.2)).trans ?_
    have e : L.map (·.2) = kvs.map fun x => x.1.map keyInt := by
      show (ks.map fun x => (x.2.1, x.1.map keyInt)).map (·.2) = _
      rw [List.map_map]
      have : ks.map ((fun q : Addr × List Int => q.2) ∘ fun x : List Key × Addr × Value => (x.2.1, x.1.map keyInt)) = (ks.map fun x => x.1).map fun k => k.map keyInt := by
        rw [List.map_map]
        rfl
      rw [this, hkeys, List.map_map]
      rfl
    rw [e]
end
end BS
namespace DL
open PySem PySem.Spec L2 PyProof.Rows
section
variable {P : Program} {w : World} {K : PySem.W.Frag} {mg : Str → Option Value} {base : Heap} {X : Cx} {N : List Str} {sc fs : Scope} {k : Nat}
/-- immutable tuples come into sight -/
def extF (F H : Hp) (bs : List Addr) : Hp := fun a => if a ∈ bs then H a else F a
theorem extF_in {F H : Hp} {bs : List Addr} {b : Addr} (h : b ∈ bs) : extF F H bs b = H b := if_pos h
theorem ext_tups {F H : Hp} {st : Sto} {bs : List Addr} (R : Rs K F H st) (hb : ∀ b ∈ bs, ∃ ts, H b = some (.tup ts)) : Rs K (extF F H bs) H st ∧ Step F H st (extF F H bs) H st := by
  have ex : ∀ a o, F a = some o → extF F H bs a = some o := fun a o h => by
    unfold extF
    split
    · exact (R.sub a o h).1
    · exact h
  refine ⟨⟨fun a o h => ?_, fun a m h => MOk.mono ex rfl (R.ok a m h)⟩, ⟨ex, fun a o h k => ⟨h, k⟩, fun a o h => ?_⟩⟩
  · unfold extF at h
    split at h
    · rename_i hm
      refine ⟨h, ?_⟩
      obtain ⟨ts, e⟩ := hb a hm
      cases es : st a with
      | none => rfl
      | some m =>
        exfalso
        have := R.ok a m es
        cases m with
        | lst xs => obtain ⟨vs, e2, _⟩ := this; rw [e] at e2; cases e2
        | dK xs => obtain ⟨vs, e2, _⟩ := this; rw [e] at e2; cases e2
        | dT xs => obtain ⟨vs, e2, _⟩ := this; rw [e] at e2; cases e2
        | ins C fs => obtain ⟨dx, vs, e2, _⟩ := this; rw [e] at e2; cases e2
    · exact R.sub a o h
  · unfold extF at h
    split at h
    · rename_i hm
      exact .inr (.inr (.inr (hb a hm)))
    · exact .inl (by rw [h]; exact fun z => nomatch z)
def tupD (a : List Int) : DV := .d (.tuple (a.map .int))
theorem ext_rvs {F H : Hp} : ∀ (L : List (Addr × List Int)), (∀ q ∈ L, F q.1 = some (.tup (q.2.map V.int))) → RVs K F (L.map fun q => V.ref q.1) ((L.map (·.2)).map tupD)
  | [], _ => .nil
  | q :: L, h => .cons (.d (.tup (h q List.mem_cons_self) (rp_all q.2))) (ext_rvs (F := F) (H := H) L fun r hr => h r (List.mem_cons_of_mem _ hr))
theorem pr_keys {F : Hp} {κ : Type} : ∀ {ws : List (κ × V)} {kvs : List (κ × DV)}, PR K F ws kvs → ws.map (·.1) = kvs.map (·.1)
  | _, _, .nil => rfl
  | _, _, .cons h t => by rw [List.map_cons, List.map_cons, h.1, pr_keys t]
theorem intKeys_of {β γ : Type} {ws : List (List Key × β)} {kvs : List (List Key × γ)} (e : ws.map (·.1) = kvs.map (·.1)) (h : BS.IntKeys kvs) : BS.IntKeys ws := fun p hp => by
  have : p.1 ∈ kvs.map (·.1) := by rw [← e]; exact List.mem_map.mpr ⟨p, hp, rfl⟩
  obtain ⟨q, hq, eq⟩ := List.mem_map.mp this
  obtain ⟨ns, en⟩ := h q hq
  exact ⟨ns, by rw [← eq, en]⟩
def keysD (kvs : List (List Key × DV)) : List (List Int) := kvs.map fun x => x.1.map BS.keyInt
/-- sorted(d), d a dict with tuples of ints as keys -/
def qSortDT (m : Bool) : RLD := fun xs st Q => match xs with
  | [.r a] => (match st a with
    | some (.dT kvs) => BS.IntKeys kvs ∧ kvs.length < 4000 ∧ newL m ((sortU (keysD kvs)).map tupD) st Q
    | _ => False)
  | _ => False
theorem c_sortDT (m : Bool) (hc : X.calm = true) (hu : X.A.units + 64 < cLine) : ∃ r', CallR X (.builtin "sorted") r' ∧ SL X.K r' (qSortDT m) := by
  refine ⟨_, BS.cr_sortedDT hc hu, ?_⟩
  intro F H st vs xs Qd Q R rv h kk
  unfold qSortDT at h
  split at h
  rotate_left
  · exact h.elim
  rename_i a
  split at h
  rotate_left
  · exact h.elim
  rename_i kvs e
  obtain ⟨hik, hf, q⟩ := h
  obtain ⟨v, rfl, r⟩ := rvs1 rv
  cases r
  obtain ⟨ws, hw, pr⟩ := R.ok a _ e
  have ek := pr_keys pr
  have el : ws.length = kvs.length := Paired.length pr
  refine ⟨a, ws, rfl, hw, intKeys_of ek hik, by omega, fun L' p hH pm nd pw hp => ?_⟩
  obtain ⟨R2, S2⟩ := ext_tups (bs := L'.map (·.1)) R fun b hb => by
    obtain ⟨y, hy, rfl⟩ := List.mem_map.mp hb
    exact ⟨_, hH y hy⟩
  have e1 : ws.map (fun x => x.1.map BS.keyInt) = keysD kvs := by
    unfold keysD
    have := congrArg (List.map fun k : List Key => k.map BS.keyInt) ek
    rw [List.map_map, List.map_map] at this
    exact this
  rw [e1] at pm
  have e2 : sortU (keysD kvs) = L'.map (·.2) := by
    refine sortU_eq ?_ fun x => pm.mem_iff.symm
    refine List.pairwise_map.mpr ?_
    have nd' : L'.Pairwise fun q r => q.2 ≠ r.2 := List.pairwise_map.mp nd
    refine List.Pairwise.imp (fun {y z} hyz => ?_) (List.Pairwise.and nd' pw)
    rcases lexL_tri y.2 z.2 with e | e | e
    · exact e
    · exact absurd e hyz.1
    · rw [hyz.2] at e; cases e
  rw [e2] at q
  exact new_lst R2 (m := m) (ext_rvs (H := H) L' fun y hy => by rw [extF_in (List.mem_map.mpr ⟨y, hy, rfl⟩)]; exact hH y hy) hp q fun F' b H' b' st' S3 R3 r3 q3 => kk F' b H' b' st' (S2.trans S3) R3 r3 q3
/-- list(d) -/
def qListDT (m : Bool) : RLD := fun xs st Q => match xs with
  | [.r a] => (match st a with
    | some (.dT kvs) => BS.IntKeys kvs ∧ newL m ((keysD kvs).map tupD) st Q
    | _ => False)
  | _ => False
theorem c_listDT (m : Bool) (hc : X.calm = true) : ∃ r', CallR X (.type "list") r' ∧ SL X.K r' (qListDT m) := by
  refine ⟨_, call_list_dT hc, ?_⟩
  intro F H st vs xs Qd Q R rv h kk
  unfold qListDT at h
  split at h
  rotate_left
  · exact h.elim
  rename_i a
  split at h
  rotate_left
  · exact h.elim
  rename_i kvs e
  obtain ⟨hik, q⟩ := h
  obtain ⟨v, rfl, r⟩ := rvs1 rv
  cases r
  obtain ⟨ws, hw, pr⟩ := R.ok a _ e
  have ek := pr_keys pr
  refine ⟨a, ws, rfl, .inl hw, fun p bs hp hb => ?_⟩
  have key : ∀ {ws : List (List Key × V)} {bs : List Addr}, BS.IntKeys ws → IsKeys H ws bs → ∃ L : List (Addr × List Int), bs = L.map (·.1) ∧ L.map (·.2) = ws.map (fun x => x.1.map BS.keyInt) ∧ ∀ q ∈ L, H q.1 = some (.tup (q.2.map V.int)) := by
    intro ws bs hi hk
    unfold IsKeys at hk
    induction hk with
    | nil => exact ⟨[], rfl, rfl, fun q hq => nomatch hq⟩
    | @cons x b ps qs hx t ih =>
      obtain ⟨L, h1, h2, h3⟩ := ih fun y hy => hi y (List.mem_cons_of_mem _ hy)
      obtain ⟨ns, en⟩ := hi x List.mem_cons_self
      refine ⟨(b, ns) :: L, by rw [h1]; rfl, by rw [List.map_cons, List.map_cons, h2, en, BS.keyInts_inl], fun y hy => ?_⟩
      rcases List.mem_cons.mp hy with rfl | hy
      · show H b = some (.tup (ns.map V.int))
        rw [hx, en, BS.kV_inl]
      · exact h3 y hy
  obtain ⟨L, rfl, e2, hH⟩ := key (intKeys_of ek hik) hb
  obtain ⟨R2, S2⟩ := ext_tups (bs := L.map (·.1)) R fun b hb => by
    obtain ⟨y, hy, rfl⟩ := List.mem_map.mp hb
    exact ⟨_, hH y hy⟩
  have e1 : keysD kvs = L.map (·.2) := by
    rw [e2]
    unfold keysD
    have := congrArg (List.map fun k : List Key => k.map BS.keyInt) ek
    rw [List.map_map, List.map_map] at this
    exact this.symm
  rw [e1] at q
  have ev : (L.map (·.1)).map V.ref = L.map fun q => V.ref q.1 := by rw [List.map_map]; rfl
  rw [ev]
  exact new_lst R2 (m := m) (ext_rvs (H := H) L fun y hy => by rw [extF_in (List.mem_map.mpr ⟨y, hy, rfl⟩)]; exact hH y hy) hp q fun F' b H' b' st' S3 R3 r3 q3 => kk F' b H' b' st' (S2.trans S3) R3 r3 q3
def keyX (x : DV) : Option (List Key) := match titems x with | some ys => keyT ys | none => none
/-- {k: v}, k a tuple -/
def qDispT (tk tv : TD) : TD := fun ε st Q => tk ε st fun x s1 => tv ε s1 fun y s2 => match keyX x with
  | some q => ∀ p, s2 p = none → Q (.r p) (up s2 p (.dT [(q, y)]))
  | none => False
theorem de_dispT {pos : Pos} {ke ve : Expr} {tk tv : TD} (c : Cok P w K mg base X N sc fs k) (hk : DE X ke tk) (hv : DE X ve tv) : DE X (.Dict [some ke] [ve] pos) (qDispT tk tv) := by
  obtain ⟨t1, p1, a1⟩ := hk
  obtain ⟨t2, p2, a2⟩ := hv
  refine ⟨⟨_, pe_disp1T c.hu p1 p2, fun F σ H ε st Qd Q R E h kk p hp => ?_⟩⟩
  obtain ⟨f0, s0⟩ := R.free hp
  obtain ⟨R', t'⟩ := R.hide (o := .dT []) hp
  refine a1 F σ _ ε st _ _ R' E h fun F1 v1 H1 x s1 t1' R1 r1 q => ?_
  refine a2 F1 σ H1 ε s1 _ _ R1 (E.mono t1'.ex) q fun F2 v2 H2 y s2 t2' R2 r2 q => ?_
  obtain ⟨hp1, f1, d1⟩ := (t1'.trans t2').hid upd_same f0 s0
  split at q
  rotate_left
  · exact q.elim
  rename_i kk' ek
  unfold keyX at ek
  split at ek
  rotate_left
  · cases ek
  rename_i ys ey
  obtain ⟨b, vs, rfl, hb, sb⟩ := titems_rv r1 ey
  have hv := keyT_rv sb ek
  subst hv
  have hb' := (R2.sub _ _ (t2'.ex _ _ hb)).1
  refine ⟨hp1, b, kk', rfl, hb', ?_⟩
  have R3 := R2.hput (o := .dT [(kk', v2)]) f1 d1
  have t3 : Step F H st F2 (upd H2 p (.dT [(kk', v2)])) s2 := (t'.trans (t1'.trans t2')).hput hp
  refine kk F2 (.ref p) _ (.r p) (up s2 p (.dT [(kk', y)])) ⟨t3.ex, fun a u ha k => ?_, t3.fnew⟩ ⟨fun a u ha => ?_, fun a m ha => ?_⟩ (.r p) (q p d1)
  · rw [up_ne (fun z => by rw [z, hp] at ha; cases ha)]; exact t3.pres a u ha k
  · rw [up_ne (fun z => by rw [z, f1] at ha; cases ha)]; exact R3.sub a u ha
  · by_cases z : a = p
    · subst z; rw [up_same] at ha; cases ha; exact ⟨_, upd_same, .cons ⟨rfl, r2⟩ .nil⟩
    · rw [up_ne z] at ha; exact R3.ok a m ha
end
end DL
end

section
set_option linter.all false
set_option maxRecDepth 100000
set_option maxHeartbeats 1000000
namespace UC
open PySem L2 DL
/-! data: shapes, equality -/
def Sh (n : Nat) (d : PyData) : Prop := d.canLay0 = true ∧ d.depth ≤ n
theorem Sh.shaped {d : PyData} (h : Sh 64 d) : SeqAt.shaped d = true := by
  unfold SeqAt.shaped
  rw [h.1, decide_eq_true h.2]
  rfl
theorem Sh.mono {n m : Nat} {d : PyData} (h : Sh n d) (hm : n ≤ m) : Sh m d := ⟨h.1, Nat.le_trans h.2 hm⟩
theorem sh_int {n : Nat} {i : Int} : Sh n (.int i) := ⟨by simp [PyData.canLay0], by simp [PyData.depth]⟩
theorem sh_bool {n : Nat} {b : Bool} : Sh n (.bool b) := ⟨by simp [PyData.canLay0], by simp [PyData.depth]⟩
theorem sh_str {n : Nat} {s : Str} (h : PyData.strOk s = true) : Sh n (.str s) := ⟨by simp [PyData.canLay0, h], by simp [PyData.depth]⟩
theorem sh_none {n : Nat} : Sh n .none := ⟨by simp [PyData.canLay0], by simp [PyData.depth]⟩
theorem canAll : ∀ {l : List PyData}, (∀ x ∈ l, x.canLay0 = true) → PyData.canLayAll0 l = true
  | [], _ => by simp [PyData.canLayAll0]
  | x :: r, h => by
    have h1 := h x List.mem_cons_self
    have h2 := canAll (l := r) fun y hy => h y (List.mem_cons_of_mem _ hy)
    simp [PyData.canLayAll0, h1, h2]
theorem depAll {n : Nat} : ∀ {l : List PyData}, (∀ x ∈ l, x.depth ≤ n) → PyData.depthAll l ≤ n
  | [], _ => by simp [PyData.depthAll]
  | x :: r, h => by
    have h1 := h x List.mem_cons_self
    have h2 := depAll (l := r) fun y hy => h y (List.mem_cons_of_mem _ hy)
    simp only [PyData.depthAll]
    omega
theorem sh_list {n : Nat} {l : List PyData} (h : ∀ x ∈ l, Sh n x) : Sh (n + 1) (.list l) := by
  have h1 := canAll fun x hx => (h x hx).1
  have h2 := depAll fun x hx => (h x hx).2
  exact ⟨by simp [PyData.canLay0, h1], by simp only [PyData.depth]; omega⟩
theorem sh_tuple {n : Nat} {l : List PyData} (h : ∀ x ∈ l, Sh n x) : Sh (n + 1) (.tuple l) := by
  have h1 := canAll fun x hx => (h x hx).1
  have h2 := depAll fun x hx => (h x hx).2
  exact ⟨by simp [PyData.canLay0, h1], by simp only [PyData.depth]; omega⟩
theorem forall_map {α : Type} {f : α → PyData} {l : List α} {p : PyData → Prop} (h : ∀ x ∈ l, p (f x)) : ∀ y ∈ l.map f, p y := fun y hy => by
  obtain ⟨x, hx, rfl⟩ := List.mem_map.mp hy
  exact h x hx
/-- a monomial, a tuple of monomials, a list of them -/
abbrev TI (a : List Int) : PyData := .tuple (a.map .int)
abbrev LI (a : List Int) : PyData := .list (a.map .int)
abbrev TT (l : List (List Int)) : PyData := .tuple (l.map TI)
abbrev LT (l : List (List Int)) : PyData := .list (l.map TI)
theorem sh_TI {n : Nat} {a : List Int} : Sh (n + 1) (TI a) := sh_tuple (forall_map fun _ _ => sh_int)
theorem sh_LI {n : Nat} {a : List Int} : Sh (n + 1) (LI a) := sh_list (forall_map fun _ _ => sh_int)
theorem sh_TT {n : Nat} {l : List (List Int)} : Sh (n + 2) (TT l) := sh_tuple (forall_map fun _ _ => sh_TI)
theorem sh_LT {n : Nat} {l : List (List Int)} : Sh (n + 2) (LT l) := sh_list (forall_map fun _ _ => sh_TI)
@[simp] theorem shaped_TI {a : List Int} : SeqAt.shaped (TI a) = true := (sh_TI (n := 63)).shaped
@[simp] theorem shaped_LI {a : List Int} : SeqAt.shaped (LI a) = true := (sh_LI (n := 63)).shaped
@[simp] theorem shaped_TT {a : List (List Int)} : SeqAt.shaped (TT a) = true := (sh_TT (n := 62)).shaped
@[simp] theorem shaped_LT {a : List (List Int)} : SeqAt.shaped (LT a) = true := (sh_LT (n := 62)).shaped
@[simp] theorem shaped_int {i : Int} : SeqAt.shaped (.int i) = true := (sh_int (n := 64)).shaped
@[simp] theorem shaped_bool {i : Bool} : SeqAt.shaped (.bool i) = true := (sh_bool (n := 64)).shaped
@[simp] theorem shaped_nilL : SeqAt.shaped (.list []) = true := by decide +kernel
@[simp] theorem shaped_nilT : SeqAt.shaped (.tuple []) = true := by decide +kernel
/-- a kind of data whose equality is that of what it tells -/
def EqK {α : Type} [DecidableEq α] (f : α → PyData) : Prop := ∀ x y, PyData.eqv (f x) (f y) = decide (x = y)
theorem eqk_int : EqK PyData.int := fun x y => by
  rw [PyData.eqv]
  by_cases h : x = y <;> simp [h]
theorem eqk_bool : EqK PyData.bool := fun x y => by
  rw [PyData.eqv]
  cases x <;> cases y <;> rfl
theorem eqvAll_map {α : Type} [DecidableEq α] {f : α → PyData} (h : EqK f) : ∀ xs ys : List α, PyData.eqvAll (xs.map f) (ys.map f) = decide (xs = ys)
  | [], [] => by simp [PyData.eqvAll]
  | [], y :: ys => by simp [PyData.eqvAll]
  | x :: xs, [] => by simp [PyData.eqvAll]
  | x :: xs, y :: ys => by
    rw [List.map_cons, List.map_cons, PyData.eqvAll, h x y, eqvAll_map h xs ys]
    by_cases h1 : x = y <;> by_cases h2 : xs = ys <;> simp [h1, h2]
theorem eqk_tuple {α : Type} [DecidableEq α] {f : α → PyData} (h : EqK f) : EqK fun l : List α => PyData.tuple (l.map f) := fun xs ys => by
  rw [PyData.eqv, eqvAll_map h]
theorem eqk_list {α : Type} [DecidableEq α] {f : α → PyData} (h : EqK f) : EqK fun l : List α => PyData.list (l.map f) := fun xs ys => by
  rw [PyData.eqv, eqvAll_map h]
@[simp] theorem eqv_int (x y : Int) : PyData.eqv (.int x) (.int y) = decide (x = y) := eqk_int x y
@[simp] theorem eqv_bool (x y : Bool) : PyData.eqv (.bool x) (.bool y) = decide (x = y) := eqk_bool x y
@[simp] theorem eqv_TI (x y : List Int) : PyData.eqv (TI x) (TI y) = decide (x = y) := eqk_tuple eqk_int x y
@[simp] theorem eqv_LI (x y : List Int) : PyData.eqv (LI x) (LI y) = decide (x = y) := eqk_list eqk_int x y
@[simp] theorem eqv_TT (x y : List (List Int)) : PyData.eqv (TT x) (TT y) = decide (x = y) := eqk_tuple (eqk_tuple eqk_int) x y
@[simp] theorem eqv_LT (x y : List (List Int)) : PyData.eqv (LT x) (LT y) = decide (x = y) := eqk_list (eqk_tuple eqk_int) x y
@[simp] theorem eqv_nilL {α : Type} (f : α → PyData) (x : List α) : PyData.eqv (.list (x.map f)) (.list []) = decide (x = []) := by
  cases x <;> simp [PyData.eqv, PyData.eqvAll]
@[simp] theorem eqv_nilT {α : Type} (f : α → PyData) (x : List α) : PyData.eqv (.tuple (x.map f)) (.tuple []) = decide (x = []) := by
  cases x <;> simp [PyData.eqv, PyData.eqvAll]
@[simp] theorem mkT_map (l : List PyData) : mkT (l.map .d) = .d (.tuple l) := by
  unfold mkT
  rw [datas_map]
theorem mkT_ints (l : List Int) : mkT (l.map fun i => .d (.int i)) = .d (TI l) := by
  have e : (l.map fun i => DV.d (.int i)) = (l.map PyData.int).map DV.d := by rw [List.map_map]; rfl
  rw [e, mkT_map]
@[simp] theorem mkT_2 (a b : PyData) : mkT [.d a, .d b] = .d (.tuple [a, b]) := rfl
@[simp] theorem mkT_3 (a b c : PyData) : mkT [.d a, .d b, .d c] = .d (.tuple [a, b, c]) := rfl
@[simp] theorem mkT_0 : mkT [] = .d (.tuple []) := rfl
@[simp] theorem mkT_1 (a : PyData) : mkT [.d a] = .d (.tuple [a]) := rfl
theorem sizeL : sizeLine = 16777216 := rfl
theorem fmod_range {i j : Int} (h : 0 < j) : 0 ≤ i.fmod j ∧ i.fmod j < j := by
  rw [Int.fmod_eq_emod_of_nonneg i (by omega)]
  exact ⟨Int.emod_nonneg _ (by omega), Int.emod_lt_of_pos _ h⟩
theorem cmul_l {i j : Int} (h1 : -(2 ^ 64) < i) (h2 : i < 2 ^ 64) : CMulA i j := .inl (.inl ⟨h1, h2⟩)
theorem cmul_r {i j : Int} (h1 : -(2 ^ 64) < j) (h2 : j < 2 ^ 64) : CMulA i j := .inl (.inr ⟨h1, h2⟩)
theorem cutD_len {α : Type} (xs : List α) (lo hi : Option Int) : (cutD xs lo hi).length ≤ xs.length := by
  unfold cutD
  rw [List.length_take, List.length_drop]
  omega
theorem dints_map2 (l : List Int) : dints ((l.map PyData.int).map DV.d) = some l := by
  rw [List.map_map]
  exact dints_map l
theorem dbools_map2 (l : List Bool) : dbools ((l.map PyData.bool).map DV.d) = some l := by
  rw [List.map_map]
  exact dbools_map l
theorem atI_map2 {α : Type} {f : α → PyData} {l : List α} {j : Nat} (h : j < l.length) : atI (List.map DV.d (List.map f l)) (j : Int) = some (.d (f l[j])) := atI_nat (by rw [List.getElem?_map, List.getElem?_map, List.getElem?_eq_getElem h]; rfl)
/-! comprehensions and loops over typed items -/
theorem comp_mapT {α : Type} (h : α → DV) (f : α → DV) {inv : Sto → Prop} {g : TDg} {te : TD} {ε : DL.Env} {Kc : List DV → Sto → Prop} {st : Sto} (hi : inv st) : ∀ (l : List α) (acc : List DV),
    (∀ p ∈ l, ∀ Q : DV → Sto → Prop, Q (f p) st → g (h p) ε st fun ε1 s1 => te ε1 s1 Q) → Kc (acc ++ l.map f) st → qComp inv g qYes te ε Kc (l.map h) acc st
  | [], acc, _, k => ⟨hi, by rw [List.map_nil, List.append_nil] at k; exact k⟩
  | x :: xs, acc, hx, k => by
    refine ⟨hi, ?_⟩
    refine hx x List.mem_cons_self (fun y s3 => qComp inv g qYes te ε Kc (xs.map h) (acc ++ [y]) s3) ?_
    exact comp_mapT h f hi xs (acc ++ [f x]) (fun y hy => hx y (List.mem_cons_of_mem _ hy)) (by rw [List.append_assoc]; exact k)
theorem comp_fmT {α : Type} (h : α → DV) (p : α → Bool) (f : α → DV) {inv : Sto → Prop} {g : TDg} {tt : TDt} {te : TD} {ε : DL.Env} {Kc : List DV → Sto → Prop} {st : Sto} (hi : inv st) : ∀ (l : List α) (acc : List DV),
    (∀ x ∈ l, ∀ (Q1 : DV → Sto → Prop) (Q2 : Sto → Prop), (if p x = true then Q1 (f x) st else Q2 st) → g (h x) ε st fun ε1 s1 => tt ε1 s1 fun b s2 => if b = true then te ε1 s2 Q1 else Q2 s2) → Kc (acc ++ (l.filter p).map f) st → qComp inv g tt te ε Kc (l.map h) acc st
  | [], acc, _, k => ⟨hi, by rw [List.filter_nil, List.map_nil, List.append_nil] at k; exact k⟩
  | x :: xs, acc, hx, k => by
    refine ⟨hi, ?_⟩
    refine hx x List.mem_cons_self (fun y s3 => qComp inv g tt te ε Kc (xs.map h) (acc ++ [y]) s3) (fun s2 => qComp inv g tt te ε Kc (xs.map h) acc s2) ?_
    cases e : p x with
    | true =>
      rw [if_pos rfl]
      refine comp_fmT h p f hi xs (acc ++ [f x]) (fun y hy => hx y (List.mem_cons_of_mem _ hy)) ?_
      rw [List.filter_cons, if_pos e, List.map_cons] at k
      rw [List.append_assoc]
      exact k
    | false =>
      rw [if_neg Bool.false_ne_true]
      refine comp_fmT h p f hi xs acc (fun y hy => hx y (List.mem_cons_of_mem _ hy)) ?_
      rw [List.filter_cons, if_neg (by rw [e]; exact Bool.false_ne_true)] at k
      exact k
/-- a comprehension whose elements draw: what is made so far has the word W -/
theorem comp_word {α : Type} (h : α → DV) {inv : Sto → Prop} {g : TDg} {te : TD} {ε : DL.Env} {Kc : List DV → Sto → Prop} (W : Nat → List DV → Sto → Prop) (hi : ∀ i acc st, W i acc st → inv st) : ∀ (l : List α) (i : Nat) (acc : List DV) (st : Sto), W i acc st →
    (∀ p ∈ l, ∀ i acc st, W i acc st → ∀ Q : DV → Sto → Prop, (∀ y s, W (i + 1) (acc ++ [y]) s → Q y s) → g (h p) ε st fun ε1 s1 => te ε1 s1 Q) → (∀ acc st, W (i + l.length) acc st → Kc acc st) → qComp inv g qYes te ε Kc (l.map h) acc st
  | [], i, acc, st, w, _, k => ⟨hi _ _ _ w, k _ _ w⟩
  | x :: xs, i, acc, st, w, hx, k => by
    refine ⟨hi _ _ _ w, ?_⟩
    refine hx x List.mem_cons_self i acc st w (fun y s3 => qComp inv g qYes te ε Kc (xs.map h) (acc ++ [y]) s3) fun y s w' => ?_
    exact comp_word h W hi xs (i + 1) (acc ++ [y]) s w' (fun y hy => hx y (List.mem_cons_of_mem _ hy)) fun acc st w => k acc st (by rw [List.length_cons]; rw [show i + 1 + xs.length = i + (xs.length + 1) by omega] at w; exact w)
/-- a for over typed items: i items gone -/
theorem for_byT {α : Type} (h : α → DV) {inv : Sto → Prop} {g : TDg} {tb : TDs} {D : EndsD} {l : List α} {ε : DL.Env} {st : Sto} (W : Nat → DL.Env → Sto → Prop) (h0 : W 0 ε st) (hi : ∀ i ε st, W i ε st → inv st)
    (hs : ∀ (i : Nat) (x : α) ε st, l[i]? = some x → W i ε st → ∀ L : DL.Env → Sto → Prop, (∀ ε' st', W (i + 1) ε' st' → L ε' st') → g (h x) ε st fun ε1 s1 => tb { D with nx := L, ct := L, bk := D.nx } ε1 s1) (hd : ∀ ε st, W l.length ε st → D.nx ε st) : qLoop inv g tb D (l.map h) ε st := by
  have : ∀ (r : List α) (i : Nat) ε st, l.drop i = r → i + r.length = l.length → W i ε st → qLoop inv g tb D (r.map h) ε st := by
    intro r
    induction r with
    | nil =>
      intro i ε st hdr hlen w
      have e : i = l.length := by simpa using hlen
      subst e
      exact ⟨hi _ _ _ w, hd _ _ w⟩
    | cons y r ih =>
      intro i ε st hdr hlen w
      have hx : l[i]? = some y := by
        have := congrArg (fun z => z[0]?) hdr
        simp only [List.getElem?_drop, List.getElem?_cons_zero, Nat.add_zero] at this
        exact this
      refine ⟨hi _ _ _ w, hs i y ε st hx w _ fun ε' st' w' => ?_⟩
      refine ih (i + 1) ε' st' ?_ (by simp only [List.length_cons] at hlen; omega) w'
      rw [← List.drop_drop, hdr]
      rfl
  exact this l 0 ε st rfl (by simp) h0
theorem fg_ret {Q : DV → Sto → Prop} {x : DV} {st : Sto} (h : Q x st) : Fg Q x st := ⟨st, Le.refl st, h⟩
theorem in_IT (neg : Bool) (i : Int) (a : List Int) (st : Sto) (Q : DV → Sto → Prop) : qIn neg (.d (.int i)) (.d (TI a)) st Q = Q (.d (.bool (if neg then !decide (i ∈ a) else decide (i ∈ a)))) st := qIn_IT neg i a st Q
theorem in_IL (neg : Bool) (i : Int) (a : List Int) (st : Sto) (Q : DV → Sto → Prop) : qIn neg (.d (.int i)) (.d (LI a)) st Q = Q (.d (.bool (if neg then !decide (i ∈ a) else decide (i ∈ a)))) st := qIn_IL neg i a st Q
theorem in_TT (neg : Bool) (a : List Int) (l : List (List Int)) (st : Sto) (Q : DV → Sto → Prop) : qIn neg (.d (TI a)) (.d (TT l)) st Q = Q (.d (.bool (if neg then !decide (a ∈ l) else decide (a ∈ l)))) st := qIn_TT neg a l st Q
theorem in_TL (neg : Bool) (a : List Int) (l : List (List Int)) (st : Sto) (Q : DV → Sto → Prop) : qIn neg (.d (TI a)) (.d (LT l)) st Q = Q (.d (.bool (if neg then !decide (a ∈ l) else decide (a ∈ l)))) st := qIn_TL neg a l st Q
/-! dicts with tuples of ints as keys -/
theorem keyT_ints : ∀ a : List Int, keyT ((a.map PyData.int).map DV.d) = some (a.map Sum.inl)
  | [] => rfl
  | x :: a => by
    rw [List.map_cons, List.map_cons, keyT, keyT_ints a]
    rfl
theorem keyX_TI (a : List Int) : keyX (.d (TI a)) = some (a.map Sum.inl) := keyT_ints a
def tabD (l : List (List Int × DV)) : List (List Key × DV) := l.map fun p => (p.1.map Sum.inl, p.2)
theorem len_tab (l : List (List Int × DV)) : (tabD l).length = l.length := List.length_map ..
theorem keys_tab (l : List (List Int × DV)) : keysD (tabD l) = l.map (·.1) := by
  unfold keysD tabD
  rw [List.map_map]
  refine List.map_congr_left fun p _ => ?_
  exact BS.keyInts_inl p.1
theorem intKeys_tab (l : List (List Int × DV)) : BS.IntKeys (tabD l) := fun p hp => by
  obtain ⟨q, _, rfl⟩ := List.mem_map.mp hp
  exact ⟨q.1, rfl⟩
theorem inl_inj {a b : List Int} (h : (a.map Sum.inl : List Key) = b.map Sum.inl) : a = b := by
  have := congrArg (List.map BS.keyInt) h
  rw [BS.keyInts_inl, BS.keyInts_inl] at this
  exact this
theorem dec_inl (a b : List Int) : decide ((a.map Sum.inl : List Key) = b.map Sum.inl) = decide (a = b) := by
  rw [Bool.eq_iff_iff, decide_eq_true_eq, decide_eq_true_eq]
  exact ⟨inl_inj, fun h => by rw [h]⟩
def putT (l : List (List Int × DV)) (a : List Int) (v : DV) : List (List Int × DV) :=
  if (l.any fun p => decide (p.1 = a)) = true then l.map fun p => if p.1 = a then (p.1, v) else p else l ++ [(a, v)]
theorem put_tab (l : List (List Int × DV)) (a : List Int) (v : DV) : putD (tabD l) (a.map Sum.inl) v = tabD (putT l a v) := by
  unfold putD putT tabD
  rw [List.any_map]
  have e : ((fun kv : List Key × DV => decide (kv.1 = a.map Sum.inl)) ∘ fun p : List Int × DV => ((p.1.map Sum.inl : List Key), p.2)) = fun p : List Int × DV => decide (p.1 = a) := funext fun p => dec_inl p.1 a
  rw [e]
  split
  · rw [List.map_map, List.map_map]
    refine List.map_congr_left fun p _ => ?_
    show (if (p.1.map Sum.inl : List Key) = a.map Sum.inl then _ else _) = _
    by_cases h : p.1 = a
    · rw [if_pos (by rw [h])]
      show _ = ((if p.1 = a then (p.1, v) else p).1.map Sum.inl, (if p.1 = a then (p.1, v) else p).2)
      rw [if_pos h]
    · rw [if_neg fun z => h (inl_inj z)]
      show _ = ((if p.1 = a then (p.1, v) else p).1.map Sum.inl, (if p.1 = a then (p.1, v) else p).2)
      rw [if_neg h]
  · rw [List.map_append]
    rfl
theorem dput_tab (l : List (List Int × DV)) (a : List Int) (v : DV) (h : l.length < sizeLine) : dput (some (.dT (tabD l))) (.d (TI a)) v = some (.dT (tabD (putT l a v))) := by
  show (match titems (.d (TI a)) with | some ys => (match keyT ys with | some q => if (tabD l).length < sizeLine then some (MO.dT (putD (tabD l) q v)) else none | none => none) | none => none) = _
  rw [show titems (.d (TI a)) = some ((a.map PyData.int).map DV.d) from rfl]
  show (match keyT ((a.map PyData.int).map DV.d) with | some q => if (tabD l).length < sizeLine then some (MO.dT (putD (tabD l) q v)) else none | none => none) = _
  rw [keyT_ints]
  show (if (tabD l).length < sizeLine then some (MO.dT (putD (tabD l) (a.map Sum.inl) v)) else none) = _
  rw [len_tab, if_pos h, put_tab]
theorem tups_dv (l : List (List Int)) : l.map tupD = (l.map TI).map DV.d := by
  rw [List.map_map]
  rfl
theorem list_tab (m : Bool) (l : List (List Int × DV)) {a : Addr} {st : Sto} {Q : DV → Sto → Prop} (h : st a = some (.dT (tabD l))) (q : newL m (((l.map (·.1)).map TI).map .d) st Q) : qListDT m [.r a] st Q := by
  unfold qListDT
  simp only [h]
  refine ⟨intKeys_tab l, ?_⟩
  rw [keys_tab, tups_dv]
  exact q
theorem sort_tab (m : Bool) (l : List (List Int × DV)) {a : Addr} {st : Sto} {Q : DV → Sto → Prop} (h : st a = some (.dT (tabD l))) (hl : l.length < 4000) (q : newL m (((sortU (l.map (·.1))).map TI).map .d) st Q) : qSortDT m [.r a] st Q := by
  unfold qSortDT
  simp only [h]
  refine ⟨intKeys_tab l, by rw [len_tab]; exact hl, ?_⟩
  rw [keys_tab, tups_dv]
  exact q
end UC
end

section
set_option linter.all false
set_option maxRecDepth 100000
namespace RD
open PySem L2 DL
/-- _law_begun(script, k) slots: 0=script 1=k 2=cells 3=great 4=seed 5=cell -/
def rd_law_begun : TDs :=
  (qSeq (qAsg (qOp (qAdd false) (qSl false (qv 0) (qPart (qv 1)) qNoPart) (qSl false (qv 0) qNoPart (qPart (qv 1)))) (qgN 2))
  (qSeq (qAsg (qLc false (qiSeq (qv 2)) (qgN 5) (qTest (qOp qGe (qv 5) (qOp qPow (qc (.d (.int 10))) (qc (.d (.int 18)))))) (qv 5) [5]) (qgN 3))
  (qSeq (qAsg (qOp (qAdd false) (qc (.d (.int 71))) (qv 1)) (qgN 4))
  (qSeq (qFor (qiSeq (qv 2)) (qgN 5) (qAsg (qOp qMod (qCB qIntC (qCons (qOp (qAdd false) (qOp (qMul false) (qv 4) (qc (.d (.int 48271)))) (qv 5)) qNil)) (qc (.d (.int 2147483647)))) (qgN 4)))
  (qRet (qDisp (("left", (qIf (qTest (qOp qNe (qv 3) (qLst false qNil))) (qOp qIx (qv 3) (qc (.d (.int 0)))) (qc (.d (.int 0))))) :: (("seed", (qv 4)) :: (("cells", (qOp (qAdd false) (qv 2) (qLst false (qCons (qOp (qAdd false) (qOp (qMul false) (qc (.d (.int 53))) (qv 1)) (qc (.d (.int 11)))) qNil)))) :: (("spot", (qc (.d (.int 0)))) :: []))))))))))
/-- _law_draw(m, below) slots: 0=m 1=below 2=found 3=spot 4=cells 5=extra 6=cell 7=blend -/
def rd_law_draw : TDs :=
  (qSeq (qIfS (qTest (qOp qGt (qOp qDGet (qv 0) (qc (.d (.str "left")))) (qc (.d (.int 0))))) (qSeq (qAsg (qOp qMod (qCB qIntC (qCons (qOp qDGet (qv 0) (qc (.d (.str "left")))) qNil)) (qv 1)) (qgN 2))
      (qSeq (qDPut (qv 0) (qc (.d (.str "left"))) (qOp qFdiv (qOp qDGet (qv 0) (qc (.d (.str "left")))) (qv 1)))
      (qRet (qv 2)))) qNext)
  (qSeq (qAsg (qOp qDGet (qv 0) (qc (.d (.str "spot")))) (qgN 3))
  (qSeq (qDPut (qv 0) (qc (.d (.str "spot"))) (qOp (qAdd false) (qv 3) (qc (.d (.int 1)))))
  (qSeq (qPar 4 5 (qCons (qOp qDGet (qv 0) (qc (.d (.str "cells")))) (qCons (qOp (qAdd false) (qOp qDGet (qv 0) (qc (.d (.str "seed")))) (qOp (qMul false) (qOp (qMul false) (qc (.d (.int 40503))) (qv 3)) (qv 3))) qNil)))
  (qSeq (qAsg (qOp qIx (qv 4) (qOp qMod (qCB qIntC (qCons (qv 3) qNil)) (qCB qLen (qCons (qv 4) qNil)))) (qgN 6))
  (qSeq (qAsg (qOp qMod (qCB qIntC (qCons (qOp (qAdd false) (qOp (qMul false) (qv 6) (qOp (qAdd false) (qOp (qMul false) (qc (.d (.int 2))) (qv 3)) (qc (.d (.int 3))))) (qv 5)) qNil)) (qc (.d (.int 2147483647)))) (qgN 7))
  (qSeq (qAsg (qOp qMod (qCB qIntC (qCons (qOp (qAdd false) (qOp (qAdd false) (qOp (qMul false) (qv 7) (qv 7)) (qOp (qMul false) (qc (.d (.int 69621))) (qv 3))) (qOp qDGet (qv 0) (qc (.d (.str "seed"))))) qNil)) (qc (.d (.int 2147483629)))) (qgN 7))
  (qRet (qOp qMod (qOp qFdiv (qOp qMod (qCB qIntC (qCons (qOp (qAdd false) (qOp (qMul false) (qv 7) (qc (.d (.int 48271)))) (qv 3)) qNil)) (qc (.d (.int 2147483647)))) (qc (.d (.int 11)))) (qv 1))))))))))
/-- _law_of(m, some) slots: 0=m 1=some -/
def rd_law_of (sp_law_draw : SpD) : TDs :=
  (qRet (qOp qIx (qv 1) (qCall sp_law_draw (qCons (qv 0) (qCons (qCB qLen (qCons (qv 1) qNil)) qNil)))))
/-- degree_of(monomial) slots: 0=monomial -/
def rd_degree_of : TDs :=
  (qRet (qCB qSum (qCons (qv 0) qNil)))
/-- divides(a, b) slots: 0=a 1=b 2=one 3=other -/
def rd_divides : TDs :=
  (qSeq (qFor (qiZip (qCons (qv 0) (qCons (qv 1) qNil))) (qgT 2 (qgCons (qgN 2) (qgCons (qgN 3) qgNil))) (qIfS (qTest (qOp qGt (qv 2) (qv 3))) (qRet (qc (.d (.bool false)))) qNext))
  (qRet (qc (.d (.bool true)))))
/-- lcm_of(a, b) slots: 0=a 1=b 2=one 3=other -/
def rd_lcm_of : TDs :=
  (qRet (qCB qTupleC (qCons (qLc false (qiZip (qCons (qv 0) (qCons (qv 1) qNil))) (qgT 2 (qgCons (qgN 2) (qgCons (qgN 3) qgNil))) qYes (qCB qMax2 (qCons (qv 2) (qCons (qv 3) qNil))) [2, 3]) qNil)))
/-- support_of(monomial) slots: 0=monomial 1=variable 2=exponent -/
def rd_support_of : TDs :=
  (qRet (qCB qTupleC (qCons (qLc false (qiEnum (qCons (qv 0) qNil)) (qgT 2 (qgCons (qgN 1) (qgCons (qgN 2) qgNil))) (qTest (qOp qGt (qv 2) (qc (.d (.int 0))))) (qv 1) [1, 2]) qNil)))
/-- times(a, b) slots: 0=a 1=b 2=one 3=other -/
def rd_times : TDs :=
  (qRet (qCB qTupleC (qCons (qLc false (qiZip (qCons (qv 0) (qCons (qv 1) qNil))) (qgT 2 (qgCons (qgN 2) (qgCons (qgN 3) qgNil))) qYes (qOp (qAdd false) (qv 2) (qv 3)) [2, 3]) qNil)))
/-- cut(a, b) slots: 0=a 1=b 2=one 3=other -/
def rd_cut : TDs :=
  (qRet (qCB qTupleC (qCons (qLc false (qiZip (qCons (qv 0) (qCons (qv 1) qNil))) (qgT 2 (qgCons (qgN 2) (qgCons (qgN 3) qgNil))) qYes (qCB qMax2 (qCons (qOp qSub (qv 2) (qv 3)) (qCons (qc (.d (.int 0))) qNil))) [2, 3]) qNil)))
/-- gcd_of(a, b) slots: 0=a 1=b 2=one 3=other -/
def rd_gcd_of : TDs :=
  (qRet (qCB qTupleC (qCons (qLc false (qiZip (qCons (qv 0) (qCons (qv 1) qNil))) (qgT 2 (qgCons (qgN 2) (qgCons (qgN 3) qgNil))) qYes (qCB qMin2 (qCons (qv 2) (qCons (qv 3) qNil))) [2, 3]) qNil)))
/-- _law_divides(a, b) slots: 0=a 1=b 2=k -/
def rd_law_divides : TDs :=
  (qRet (qOp qEq (qLc false (qiRng1 (qCons (qCB qLen (qCons (qv 0) qNil)) qNil)) (qgN 2) (qTest (qOp qGt (qOp qIx (qv 0) (qv 2)) (qOp qIx (qv 1) (qv 2)))) (qv 2) [2]) (qLst false qNil)))
/-- _law_least(monomials) slots: 0=monomials 1=some 2=a 3=b -/
def rd_law_least (sp_law_divides : SpD) : TDs :=
  (qSeq (qAsg (BS.qSortB false (qv 0)) (qgN 1))
  (qRet (qCB qTupleC (qCons (qLc false (qiSeq (qv 1)) (qgN 2) (qTest (qOp qEq (qLc false (qiSeq (qv 1)) (qgN 3) (qAndT (qTest (qOp qNe (qv 3) (qv 2))) (qTest (qCall sp_law_divides (qCons (qv 3) (qCons (qv 2) qNil))))) (qv 3) [3]) (qLst false qNil))) (qv 2) [2]) qNil))))
/-- _law_box(tops) slots: 0=tops 1=found 2=top 3=wider 4=a 5=k -/
def rd_law_box : TDs :=
  (qSeq (qAsg (qLst false (qCons (qTup qNil) qNil)) (qgN 1))
  (qSeq (qFor (qiSeq (qv 0)) (qgN 2) (qSeq (qAsg (qLst true qNil) (qgN 3))
      (qSeq (qFor (qiSeq (qv 1)) (qgN 4) (qDrop (qExtend (qv 3) (qLc false (qiRng1 (qCons (qOp (qAdd false) (qv 2) (qc (.d (.int 1)))) qNil)) (qgN 5) qYes (qOp (qAdd false) (qv 4) (qTup (qCons (qv 5) qNil))) [5]))))
      (qAsg (qv 3) (qgN 1)))))
  (qRet (qv 1))))
/-- _law_monomial(m, n, top) slots: 0=m 1=n 2=top 3=k -/
def rd_law_monomial (sp_law_draw : SpD) : TDs :=
  (qRet (qCB qTupleC (qCons (qLc false (qiRng1 (qCons (qv 1) qNil)) (qgN 3) qYes (qIf (qTest (qOp qGt (qCall sp_law_draw (qCons (qv 0) (qCons (qc (.d (.int 3))) qNil))) (qc (.d (.int 0))))) (qCall sp_law_draw (qCons (qv 0) (qCons (qOp (qAdd false) (qv 2) (qc (.d (.int 1)))) qNil))) (qc (.d (.int 0)))) [3]) qNil)))
/-- _law_ideal(m, n, count, top) slots: 0=m 1=n 2=count 3=top 4=some 5=k 6=a -/
def rd_law_ideal (sp_law_draw : SpD) (sp_law_monomial : SpD) (sp_law_least : SpD) : TDs :=
  (qSeq (qAsg (qLc false (qiRng1 (qCons (qCall sp_law_draw (qCons (qv 0) (qCons (qOp (qAdd false) (qv 2) (qc (.d (.int 1)))) qNil))) qNil)) (qgN 5) qYes (qCall sp_law_monomial (qCons (qv 0) (qCons (qv 1) (qCons (qv 3) qNil)))) [5]) (qgN 4))
  (qRet (qTup (qCons (qv 1) (qCons (qCall sp_law_least (qCons (qLc false (qiSeq (qv 4)) (qgN 6) (qTest (qOp qGt (qCB qSum (qCons (qv 6) qNil)) (qc (.d (.int 0))))) (qv 6) [6]) qNil)) qNil)))))
/-- least_ones(monomials) slots: 0=monomials 1=found 2=monomial 3=other -/
def rd_least_ones (sp_divides : SpD) : TDs :=
  (qSeq (qAsg (qLst true qNil) (qgN 1))
  (qSeq (qFor (qiSeq (BS.qSortB false (qv 0))) (qgN 2) (qIfS (qNotT (qTest (qCB qAny (qCons (qLc false (qiSeq (qv 1)) (qgN 3) qYes (qCall sp_divides (qCons (qv 3) (qCons (qv 2) qNil))) [3]) qNil)))) (qDrop (qAppend (qv 1) (qv 2))) qNext))
  (qRet (qv 1))))
/-- made(n, monomials) slots: 0=n 1=monomials 2=found 3=monomial -/
def rd_made (sp_least_ones : SpD) : TDs :=
  (qSeq (qAsg (qCall sp_least_ones (qCons (qv 1) qNil)) (qgN 2))
  (qSeq (qIfS (qTest (qOp qGt (qCB qLen (qCons (qv 2) qNil)) (qc (.d (.int 60))))) qNever qNext)
  (qSeq (qFor (qiSeq (qv 2)) (qgN 3) (qIfS (qTest (qOp qGt (qCB qMax1 (qCons (qv 3) qNil)) (qc (.d (.int 60))))) qNever qNext))
  (qRet (qTup (qCons (qv 0) (qCons (qCB qTupleC (qCons (qv 2) qNil)) qNil)))))))
/-- sum_of(a, b) slots: 0=a 1=b -/
def rd_sum_of (sp_made : SpD) : TDs :=
  (qRet (qCall sp_made (qCons (qOp qIx (qv 0) (qc (.d (.int 0)))) (qCons (qCB (qListC false) (qCons (qOp (qAdd false) (qOp qIx (qv 0) (qc (.d (.int 1)))) (qOp qIx (qv 1) (qc (.d (.int 1))))) qNil)) qNil))))
/-- meet_of(a, b) slots: 0=a 1=b 2=one 3=other -/
def rd_meet_of (sp_lcm_of : SpD) (sp_made : SpD) : TDs :=
  (qRet (qCall sp_made (qCons (qOp qIx (qv 0) (qc (.d (.int 0)))) (qCons (qLc2 false (qiSeq (qOp qIx (qv 0) (qc (.d (.int 1))))) (qgN 2) qYes (qiSeq (qOp qIx (qv 1) (qc (.d (.int 1))))) (qgN 3) qYes (qCall sp_lcm_of (qCons (qv 2) (qCons (qv 3) qNil))) [2, 3] [3]) qNil))))
/-- product_of(a, b) slots: 0=a 1=b 2=one 3=other -/
def rd_product_of (sp_times : SpD) (sp_made : SpD) : TDs :=
  (qRet (qCall sp_made (qCons (qOp qIx (qv 0) (qc (.d (.int 0)))) (qCons (qLc2 false (qiSeq (qOp qIx (qv 0) (qc (.d (.int 1))))) (qgN 2) qYes (qiSeq (qOp qIx (qv 1) (qc (.d (.int 1))))) (qgN 3) qYes (qCall sp_times (qCons (qv 2) (qCons (qv 3) qNil))) [2, 3] [3]) qNil))))
/-- _law_lcm(a, b) slots: 0=a 1=b 2=k -/
def rd_law_lcm : TDs :=
  (qRet (qCB qTupleC (qCons (qLc false (qiRng1 (qCons (qCB qLen (qCons (qv 0) qNil)) qNil)) (qgN 2) qYes (qCB qMax2 (qCons (qOp qIx (qv 0) (qv 2)) (qCons (qOp qIx (qv 1) (qv 2)) qNil))) [2]) qNil)))
/-- _law_times(a, b) slots: 0=a 1=b 2=k -/
def rd_law_times : TDs :=
  (qRet (qCB qTupleC (qCons (qLc false (qiRng1 (qCons (qCB qLen (qCons (qv 0) qNil)) qNil)) (qgN 2) qYes (qOp (qAdd false) (qOp qIx (qv 0) (qv 2)) (qOp qIx (qv 1) (qv 2))) [2]) qNil)))
/-- _law_in(generators, b) slots: 0=generators 1=b 2=a -/
def rd_law_in (sp_law_divides : SpD) : TDs :=
  (qRet (qOp qNe (qLc false (qiSeq (qv 0)) (qgN 2) (qTest (qCall sp_law_divides (qCons (qv 2) (qCons (qv 1) qNil)))) (qv 2) [2]) (qLst false qNil)))
/-- contains(ideal, monomial) slots: 0=ideal 1=monomial 2=generator -/
def rd_contains (sp_divides : SpD) : TDs :=
  (qRet (qCB qAny (qCons (qLc false (qiSeq (qOp qIx (qv 0) (qc (.d (.int 1))))) (qgN 2) qYes (qCall sp_divides (qCons (qv 2) (qCons (qv 1) qNil))) [2]) qNil)))
/-- is_within(a, b) slots: 0=a 1=b 2=generator -/
def rd_is_within (sp_contains : SpD) : TDs :=
  (qRet (qCB qAll (qCons (qLc false (qiSeq (qOp qIx (qv 0) (qc (.d (.int 1))))) (qgN 2) qYes (qCall sp_contains (qCons (qv 1) (qCons (qv 2) qNil))) [2]) qNil)))
/-- colon_of(a, b) slots: 0=a 1=b 2=found 3=generator 4=part 5=other 6=one -/
def rd_colon_of (sp_cut : SpD) (sp_least_ones : SpD) (sp_lcm_of : SpD) (sp_made : SpD) : TDs :=
  (qSeq (qAsg (qLst false (qCons (qOp (qMul false) (qTup (qCons (qc (.d (.int 0))) qNil)) (qOp qIx (qv 0) (qc (.d (.int 0))))) qNil)) (qgN 2))
  (qSeq (qFor (qiSeq (qOp qIx (qv 1) (qc (.d (.int 1))))) (qgN 3) (qSeq (qAsg (qCall sp_least_ones (qCons (qLc false (qiSeq (qOp qIx (qv 0) (qc (.d (.int 1))))) (qgN 5) qYes (qCall sp_cut (qCons (qv 5) (qCons (qv 3) qNil))) [5]) qNil)) (qgN 4))
      (qAsg (qCall sp_least_ones (qCons (qLc2 false (qiSeq (qv 2)) (qgN 6) qYes (qiSeq (qv 4)) (qgN 5) qYes (qCall sp_lcm_of (qCons (qv 6) (qCons (qv 5) qNil))) [6, 5] [5]) qNil)) (qgN 2))))
  (qRet (qCall sp_made (qCons (qOp qIx (qv 0) (qc (.d (.int 0)))) (qCons (qv 2) qNil))))))
/-- colon_by(ideal, monomial) slots: 0=ideal 1=monomial 2=generator -/
def rd_colon_by (sp_cut : SpD) (sp_made : SpD) : TDs :=
  (qRet (qCall sp_made (qCons (qOp qIx (qv 0) (qc (.d (.int 0)))) (qCons (qLc false (qiSeq (qOp qIx (qv 0) (qc (.d (.int 1))))) (qgN 2) qYes (qCall sp_cut (qCons (qv 2) (qCons (qv 1) qNil))) [2]) qNil))))
/-- radical_of(ideal) slots: 0=ideal 1=monomial 2=exponent -/
def rd_radical_of (sp_made : SpD) : TDs :=
  (qRet (qCall sp_made (qCons (qOp qIx (qv 0) (qc (.d (.int 0)))) (qCons (qLc false (qiSeq (qOp qIx (qv 0) (qc (.d (.int 1))))) (qgN 1) qYes (qCB qTupleC (qCons (qLc false (qiSeq (qv 1)) (qgN 2) qYes (qCB qMin2 (qCons (qv 2) (qCons (qc (.d (.int 1))) qNil))) [2]) qNil)) [1]) qNil))))
/-- saturated(ideal, variable) slots: 0=ideal 1=variable 2=monomial -/
def rd_saturated (sp_made : SpD) : TDs :=
  (qRet (qCall sp_made (qCons (qOp qIx (qv 0) (qc (.d (.int 0)))) (qCons (qLc false (qiSeq (qOp qIx (qv 0) (qc (.d (.int 1))))) (qgN 2) qYes (qOp (qAdd false) (qOp (qAdd false) (qSl false (qv 2) qNoPart (qPart (qv 1))) (qTup (qCons (qc (.d (.int 0))) qNil))) (qSl false (qv 2) (qPart (qOp (qAdd false) (qv 1) (qc (.d (.int 1))))) qNoPart)) [2]) qNil))))
/-- _law_any_ideal(m) slots: 0=m 1=n 2=word -/
def rd_law_any_ideal (sp_law_draw : SpD) (sp_law_ideal : SpD) : TDs :=
  (qSeq (qPar 1 2 (qCons (qOp (qAdd false) (qc (.d (.int 1))) (qCall sp_law_draw (qCons (qv 0) (qCons (qc (.d (.int 4))) qNil)))) (qCons (qCall sp_law_draw (qCons (qv 0) (qCons (qc (.d (.int 12))) qNil))) qNil)))
  (qSeq (qIfS (qTest (qOp qLt (qv 2) (qc (.d (.int 2))))) (qRet (qIf (qTest (qOp qEq (qv 2) (qc (.d (.int 0))))) (qTup (qCons (qv 1) (qCons (qTup qNil) qNil))) (qTup (qCons (qv 1) (qCons (qTup (qCons (qOp (qMul false) (qTup (qCons (qc (.d (.int 0))) qNil)) (qv 1)) qNil)) qNil))))) qNext)
  (qRet (qCall sp_law_ideal (qCons (qv 0) (qCons (qv 1) (qCons (qc (.d (.int 6))) (qCons (qIf (qTest (qOp qLt (qv 1) (qc (.d (.int 4))))) (qc (.d (.int 3))) (qc (.d (.int 2)))) qNil))))))))
/-- want_small(ideal) slots: 0=ideal -/
def rd_want_small : TDs :=
  (qSeq (qIfS (qTest (qOp qGt (qOp qIx (qv 0) (qc (.d (.int 0)))) (qc (.d (.int 8))))) qNever qNext)
  (qIfS (qTest (qOp qGt (qCB qLen (qCons (qOp qIx (qv 0) (qc (.d (.int 1)))) qNil)) (qc (.d (.int 10))))) qNever qNext))
/-- holds(part, monomial) slots: 0=part 1=monomial 2=entry 3=exponent -/
def rd_holds : TDs :=
  (qSeq (qFor (qiZip (qCons (qv 0) (qCons (qv 1) qNil))) (qgT 2 (qgCons (qgN 2) (qgCons (qgN 3) qgNil))) (qIfS (qTest (qChain qLt qLe (qc (.d (.int 0))) (qv 2) (qv 3))) (qRet (qc (.d (.bool true)))) qNext))
  (qRet (qc (.d (.bool false)))))
/-- powers_of(part) slots: 0=part 1=found 2=i 3=exponent 4=k -/
def rd_powers_of : TDs :=
  (qSeq (qAsg (qLst true qNil) (qgN 1))
  (qSeq (qFor (qiEnum (qCons (qv 0) qNil)) (qgT 2 (qgCons (qgN 2) (qgCons (qgN 3) qgNil))) (qIfS (qTest (qOp qGt (qv 3) (qc (.d (.int 0))))) (qDrop (qAppend (qv 1) (qCB qTupleC (qCons (qLc false (qiRng1 (qCons (qCB qLen (qCons (qv 0) qNil)) qNil)) (qgN 4) qYes (qIf (qTest (qOp qEq (qv 4) (qv 2))) (qv 3) (qc (.d (.int 0)))) [4]) qNil)))) qNext))
  (qRet (qv 1))))
/-- is_around(part, other) slots: 0=part 1=other 2=power -/
def rd_is_around (sp_powers_of : SpD) (sp_holds : SpD) : TDs :=
  (qRet (qCB qAll (qCons (qLc false (qiSeq (qCall sp_powers_of (qCons (qv 1) qNil))) (qgN 2) qYes (qCall sp_holds (qCons (qv 0) (qCons (qv 2) qNil))) [2]) qNil)))
/-- without_idle(parts) slots: 0=parts 1=once 2=part 3=other -/
def rd_without_idle (sp_is_around : SpD) : TDs :=
  (qSeq (qAsg (BS.qSortB false (qv 0)) (qgN 1))
  (qRet (qLc false (qiSeq (qv 1)) (qgN 2) (qNotT (qTest (qCB qAny (qCons (qLc false (qiSeq (qv 1)) (qgN 3) qYes (qAndV (qOp qNe (qv 2) (qv 3)) (qCall sp_is_around (qCons (qv 2) (qCons (qv 3) qNil)))) [3]) qNil)))) (qv 2) [2])))
/-- split(part, monomial) slots: 0=part 1=monomial 2=found 3=i 4=exponent -/
def rd_split (sp_holds : SpD) : TDs :=
  (qSeq (qIfS (qTest (qCall sp_holds (qCons (qv 0) (qCons (qv 1) qNil)))) (qRet (qLst false (qCons (qv 0) qNil))) qNext)
  (qSeq (qAsg (qLst true qNil) (qgN 2))
  (qSeq (qFor (qiEnum (qCons (qv 1) qNil)) (qgT 2 (qgCons (qgN 3) (qgCons (qgN 4) qgNil))) (qIfS (qTest (qOp qGt (qv 4) (qc (.d (.int 0))))) (qDrop (qAppend (qv 2) (qOp (qAdd false) (qOp (qAdd false) (qSl false (qv 0) qNoPart (qPart (qv 3))) (qTup (qCons (qv 4) qNil))) (qSl false (qv 0) (qPart (qOp (qAdd false) (qv 3) (qc (.d (.int 1))))) qNoPart)))) qNext))
  (qRet (qv 2)))))
/-- components_of(n, generators) slots: 0=n 1=generators 2=found 3=one 4=wider 5=part -/
def rd_components_of (sp_split : SpD) (sp_without_idle : SpD) : TDs :=
  (qSeq (qAsg (qLst false (qCons (qOp (qMul false) (qTup (qCons (qc (.d (.int 0))) qNil)) (qv 0)) qNil)) (qgN 2))
  (qSeq (qFor (qiSeq (qv 1)) (qgN 3) (qSeq (qAsg (qLst true qNil) (qgN 4))
      (qSeq (qFor (qiSeq (qv 2)) (qgN 5) (qDrop (qExtend (qv 4) (qCall sp_split (qCons (qv 5) (qCons (qv 3) qNil))))))
      (qAsg (qCall sp_without_idle (qCons (qv 4) qNil)) (qgN 2)))))
  (qRet (qCB qTupleC (qCons (qSortD false (qv 2)) qNil)))))
/-- components(ideal) slots: 0=ideal -/
def rd_components (sp_want_small : SpD) (sp_components_of : SpD) : TDs :=
  (qSeq (qDrop (qCall sp_want_small (qCons (qv 0) qNil)))
  (qRet (qCall sp_components_of (qCons (qOp qIx (qv 0) (qc (.d (.int 0)))) (qCons (qOp qIx (qv 0) (qc (.d (.int 1)))) qNil)))))
/-- _law_tops(n, generators) slots: 0=n 1=generators 2=k 3=a -/
def rd_law_tops : TDs :=
  (qRet (qCB qTupleC (qCons (qLc false (qiRng1 (qCons (qv 0) qNil)) (qgN 2) qYes (qCB qMax1 (qCons (qOp (qAdd false) (qLst false (qCons (qc (.d (.int 0))) qNil)) (qLc false (qiSeq (qv 1)) (qgN 3) qYes (qOp qIx (qv 3) (qv 2)) [3])) qNil)) [2]) qNil)))
/-- _law_raised(b, k) slots: 0=b 1=k -/
def rd_law_raised : TDs :=
  (qRet (qOp (qAdd false) (qOp (qAdd false) (qSl false (qv 0) qNoPart (qPart (qv 1))) (qTup (qCons (qOp (qAdd false) (qOp qIx (qv 0) (qv 1)) (qc (.d (.int 1)))) qNil))) (qSl false (qv 0) (qPart (qOp (qAdd false) (qv 1) (qc (.d (.int 1))))) qNoPart)))
/-- _law_components(n, generators) slots: 0=n 1=generators 2=tops 3=found 4=b 5=free 6=k -/
def rd_law_components (sp_law_tops : SpD) (sp_law_box : SpD) (sp_law_in : SpD) (sp_law_raised : SpD) : TDs :=
  (qSeq (qAsg (qTup (qCons (qCall sp_law_tops (qCons (qv 0) (qCons (qv 1) qNil))) (qCons (qLst true qNil) qNil))) (qgT 2 (qgCons (qgN 2) (qgCons (qgN 3) qgNil))))
  (qSeq (qFor (qiSeq (qCall sp_law_box (qCons (qv 2) qNil))) (qgN 4) (qIfS (qNotT (qTest (qCall sp_law_in (qCons (qv 1) (qCons (qv 4) qNil))))) (qSeq (qAsg (qLc false (qiRng1 (qCons (qv 0) qNil)) (qgN 6) (qAndT (qTest (qOp qLt (qOp qIx (qv 4) (qv 6)) (qOp qIx (qv 2) (qv 6)))) (qNotT (qTest (qCall sp_law_in (qCons (qv 1) (qCons (qCall sp_law_raised (qCons (qv 4) (qCons (qv 6) qNil))) qNil)))))) (qv 6) [6]) (qgN 5))
          (qIfS (qTest (qOp qEq (qv 5) (qLst false qNil))) (qDrop (qAppend (qv 3) (qCB qTupleC (qCons (qLc false (qiRng1 (qCons (qv 0) qNil)) (qgN 6) qYes (qIf (qTest (qOp qLt (qOp qIx (qv 4) (qv 6)) (qOp qIx (qv 2) (qv 6)))) (qOp (qAdd false) (qOp qIx (qv 4) (qv 6)) (qc (.d (.int 1)))) (qc (.d (.int 0)))) [6]) qNil)))) qNext)) qNext))
  (qRet (qCB qTupleC (qCons (qSortD false (qv 3)) qNil)))))
/-- _law_in_part(part, b) slots: 0=part 1=b 2=k -/
def rd_law_in_part : TDs :=
  (qRet (qOp qNe (qLc false (qiRng1 (qCons (qCB qLen (qCons (qv 0) qNil)) qNil)) (qgN 2) (qTest (qChain qLt qLe (qc (.d (.int 0))) (qOp qIx (qv 0) (qv 2)) (qOp qIx (qv 1) (qv 2)))) (qv 2) [2]) (qLst false qNil)))
/-- _law_above(m, tops) slots: 0=m 1=tops 2=top -/
def rd_law_above (sp_law_of : SpD) : TDs :=
  (qRet (qCB qTupleC (qCons (qLc false (qiSeq (qv 1)) (qgN 2) qYes (qOp (qAdd false) (qv 2) (qCall sp_law_of (qCons (qv 0) (qCons (qLst false (qCons (qc (.d (.int 0))) (qCons (qc (.d (.int 0))) (qCons (qc (.d (.int 1))) (qCons (qc (.d (.int 2))) qNil))))) qNil)))) [2]) qNil)))
/-- turned(part, c) slots: 0=part 1=c 2=entry 3=top -/
def rd_turned : TDs :=
  (qRet (qCB qTupleC (qCons (qLc false (qiZip (qCons (qv 0) (qCons (qv 1) qNil))) (qgT 2 (qgCons (qgN 2) (qgCons (qgN 3) qgNil))) qYes (qIf (qTest (qOp qGt (qv 2) (qc (.d (.int 0))))) (qOp qSub (qOp (qAdd false) (qv 3) (qc (.d (.int 1)))) (qv 2)) (qc (.d (.int 0)))) [2, 3]) qNil)))
/-- dual_of(ideal, c) slots: 0=ideal 1=c 2=n 3=generators 4=index 5=one 6=part -/
def rd_dual_of (sp_want_small : SpD) (sp_divides : SpD) (sp_components_of : SpD) (sp_turned : SpD) (sp_made : SpD) : TDs :=
  (qSeq (qDrop (qCall sp_want_small (qCons (qv 0) qNil)))
  (qSeq (qAsg (qv 0) (qgT 2 (qgCons (qgN 2) (qgCons (qgN 3) qgNil))))
  (qSeq (qFor (qiEnum (qCons (qv 3) qNil)) (qgT 2 (qgCons (qgN 4) (qgCons (qgN 5) qgNil))) (qIfS (qNotT (qTest (qCall sp_divides (qCons (qv 5) (qCons (qv 1) qNil))))) qNever qNext))
  (qRet (qCall sp_made (qCons (qv 2) (qCons (qLc false (qiSeq (qCall sp_components_of (qCons (qv 2) (qCons (qv 3) qNil)))) (qgN 6) qYes (qCall sp_turned (qCons (qv 6) (qCons (qv 1) qNil))) [6]) qNil)))))))
/-- is_integer(value) slots: 0=value -/
def rd_is_integer : TDs :=
  (qRet (qAndV (qIsi "int" (qv 0)) (qNotV (qIsi "bool" (qv 0)))))
/-- has_form(value) slots: 0=value -/
def rd_has_form (sp_is_integer : SpD) : TDs :=
  (qSeq (qIfS (qOrT (qNotT (qTest (qIsi "tuple" (qv 0)))) (qOrT (qTest (qOp qNe (qCB qLen (qCons (qv 0) qNil)) (qc (.d (.int 2))))) (qNotT (qTest (qIsi "tuple" (qOp qIx (qv 0) (qc (.d (.int 1))))))))) (qRet (qc (.d (.bool false)))) qNext)
  (qRet (qAndV (qCall sp_is_integer (qCons (qOp qIx (qv 0) (qc (.d (.int 0)))) qNil)) (qChain qLe qLe (qc (.d (.int 1))) (qOp qIx (qv 0) (qc (.d (.int 0)))) (qc (.d (.int 12)))))))
/-- is_monomial(value, n) slots: 0=value 1=n 2=exponent -/
def rd_is_monomial (sp_is_integer : SpD) : TDs :=
  (qSeq (qIfS (qOrT (qNotT (qTest (qIsi "tuple" (qv 0)))) (qTest (qOp qNe (qCB qLen (qCons (qv 0) qNil)) (qv 1)))) (qRet (qc (.d (.bool false)))) qNext)
  (qSeq (qFor (qiSeq (qv 0)) (qgN 2) (qIfS (qOrT (qNotT (qTest (qCall sp_is_integer (qCons (qv 2) qNil)))) (qNotT (qTest (qChain qLe qLe (qc (.d (.int 0))) (qv 2) (qc (.d (.int 60))))))) (qRet (qc (.d (.bool false)))) qNext))
  (qRet (qc (.d (.bool true))))))
/-- breach(value) slots: 0=value 1=n 2=generators 3=place 4=entry 5=other -/
def rd_breach (sp_has_form : SpD) (sp_is_monomial : SpD) (sp_divides : SpD) : TDs :=
  (qSeq (qIfS (qNotT (qTest (qCall sp_has_form (qCons (qv 0) qNil)))) (qRet (qTup (qCons (qc (.d (.str "form"))) (qCons (qUn qNeg (qc (.d (.int 1)))) qNil)))) qNext)
  (qSeq (qAsg (qv 0) (qgT 2 (qgCons (qgN 1) (qgCons (qgN 2) qgNil))))
  (qSeq (qFor (qiEnum (qCons (qv 2) qNil)) (qgT 2 (qgCons (qgN 3) (qgCons (qgN 4) qgNil))) (qIfS (qNotT (qTest (qCall sp_is_monomial (qCons (qv 4) (qCons (qv 1) qNil))))) (qRet (qTup (qCons (qc (.d (.str "monomial"))) (qCons (qv 3) qNil)))) qNext))
  (qSeq (qFor (qiRng2 (qCons (qc (.d (.int 1))) (qCons (qCB qLen (qCons (qv 2) qNil)) qNil))) (qgN 3) (qIfS (qNotT (qTest (qOp qLt (qOp qIx (qv 2) (qOp qSub (qv 3) (qc (.d (.int 1))))) (qOp qIx (qv 2) (qv 3))))) (qRet (qTup (qCons (qc (.d (.str "sequence"))) (qCons (qv 3) qNil)))) qNext))
  (qSeq (qFor (qiEnum (qCons (qv 2) qNil)) (qgT 2 (qgCons (qgN 3) (qgCons (qgN 4) qgNil))) (qFor (qiSeq (qSl false (qv 2) qNoPart (qPart (qv 3)))) (qgN 5) (qIfS (qTest (qCall sp_divides (qCons (qv 5) (qCons (qv 4) qNil)))) (qRet (qTup (qCons (qc (.d (.str "least"))) (qCons (qv 3) qNil)))) qNext)))
  (qSeq (qIfS (qTest (qOp qGt (qCB qLen (qCons (qv 2) qNil)) (qc (.d (.int 60))))) (qRet (qTup (qCons (qc (.d (.str "many"))) (qCons (qc (.d (.int 60))) qNil)))) qNext)
  (qRet (qc (.d .none)))))))))
/-- check_ideal(value) slots: 0=value 1=found -/
def rd_check_ideal (sp_breach : SpD) : TDs :=
  (qSeq (qAsg (qCall sp_breach (qCons (qv 0) qNil)) (qgN 1))
  (qSeq (qIfS (qTest (qOp qNotN (qv 1) (qc (.d .none)))) qNever qNext)
  (qRet (qv 0))))
/-- _law_cut(a, b) slots: 0=a 1=b 2=k -/
def rd_law_cut : TDs :=
  (qRet (qCB qTupleC (qCons (qLc false (qiRng1 (qCons (qCB qLen (qCons (qv 0) qNil)) qNil)) (qgN 2) qYes (qCB qMax2 (qCons (qOp qSub (qOp qIx (qv 0) (qv 2)) (qOp qIx (qv 1) (qv 2))) (qCons (qc (.d (.int 0))) qNil))) [2]) qNil)))
/-- _law_two(m) slots: 0=m 1=n 2=found 3=k 4=word 5=one -/
def rd_law_two (sp_law_draw : SpD) (sp_law_ideal : SpD) : TDs :=
  (qSeq (qPar 1 2 (qCons (qOp (qAdd false) (qc (.d (.int 1))) (qCall sp_law_draw (qCons (qv 0) (qCons (qc (.d (.int 3))) qNil)))) (qCons (qLst true qNil) qNil)))
  (qSeq (qFor (qiRng1 (qCons (qc (.d (.int 2))) qNil)) (qgN 3) (qSeq (qAsg (qCall sp_law_draw (qCons (qv 0) (qCons (qc (.d (.int 10))) qNil))) (qgN 4))
      (qSeq (qAsg (qCall sp_law_ideal (qCons (qv 0) (qCons (qv 1) (qCons (qc (.d (.int 4))) (qCons (qc (.d (.int 3))) qNil))))) (qgN 5))
      (qDrop (qAppend (qv 2) (qIf (qTest (qOp qEq (qv 4) (qc (.d (.int 0))))) (qTup (qCons (qv 1) (qCons (qTup qNil) qNil))) (qIf (qTest (qOp qEq (qv 4) (qc (.d (.int 1))))) (qTup (qCons (qv 1) (qCons (qTup (qCons (qOp (qMul false) (qTup (qCons (qc (.d (.int 0))) qNil)) (qv 1)) qNil)) qNil))) (qv 5))))))))
  (qRet (qTup (qCons (qv 1) (qCons (qOp qIx (qv 2) (qc (.d (.int 0)))) (qCons (qOp qIx (qv 2) (qc (.d (.int 1)))) qNil)))))))
/-- permuted(ideal, listing) slots: 0=ideal 1=listing 2=monomial 3=place -/
def rd_permuted (sp_made : SpD) : TDs :=
  (qRet (qCall sp_made (qCons (qOp qIx (qv 0) (qc (.d (.int 0)))) (qCons (qLc false (qiSeq (qOp qIx (qv 0) (qc (.d (.int 1))))) (qgN 2) qYes (qCB qTupleC (qCons (qLc false (qiSeq (qv 1)) (qgN 3) qYes (qOp qIx (qv 2) (qv 3)) [3]) qNil)) [2]) qNil))))
/-- power_of(ideal, k) slots: 0=ideal 1=k 2=found 3=_ -/
def rd_power_of (sp_product_of : SpD) : TDs :=
  (qSeq (qAsg (qTup (qCons (qOp qIx (qv 0) (qc (.d (.int 0)))) (qCons (qTup (qCons (qOp (qMul false) (qTup (qCons (qc (.d (.int 0))) qNil)) (qOp qIx (qv 0) (qc (.d (.int 0))))) qNil)) qNil))) (qgN 2))
  (qSeq (qFor (qiRng1 (qCons (qv 1) qNil)) (qgN 3) (qAsg (qCall sp_product_of (qCons (qv 2) (qCons (qv 0) qNil))) (qgN 2)))
  (qRet (qv 2))))
/-- _law_around(part, other) slots: 0=part 1=other 2=k -/
def rd_law_around : TDs :=
  (qRet (qOp qEq (qLc false (qiRng1 (qCons (qCB qLen (qCons (qv 1) qNil)) qNil)) (qgN 2) (qAndT (qTest (qOp qGt (qOp qIx (qv 1) (qv 2)) (qc (.d (.int 0))))) (qNotT (qTest (qChain qLt qLe (qc (.d (.int 0))) (qOp qIx (qv 0) (qv 2)) (qOp qIx (qv 1) (qv 2)))))) (qv 2) [2]) (qLst false qNil)))
/-- _law_least_parts(parts) slots: 0=parts 1=once 2=part 3=o -/
def rd_law_least_parts (sp_law_around : SpD) : TDs :=
  (qSeq (qAsg (BS.qSortB false (qv 0)) (qgN 1))
  (qRet (qCB qTupleC (qCons (qLc false (qiSeq (qv 1)) (qgN 2) (qTest (qOp qEq (qLc false (qiSeq (qv 1)) (qgN 3) (qAndT (qTest (qOp qNe (qv 3) (qv 2))) (qTest (qCall sp_law_around (qCons (qv 2) (qCons (qv 3) qNil))))) (qv 3) [3]) (qLst false qNil))) (qv 2) [2]) qNil))))
/-- _law_colon(parts, b) slots: 0=parts 1=b 2=found 3=part 4=k -/
def rd_law_colon (sp_law_in_part : SpD) (sp_law_least_parts : SpD) : TDs :=
  (qSeq (qAsg (qLst true qNil) (qgN 2))
  (qSeq (qFor (qiSeq (qv 0)) (qgN 3) (qIfS (qNotT (qTest (qCall sp_law_in_part (qCons (qv 3) (qCons (qv 1) qNil))))) (qDrop (qAppend (qv 2) (qCB qTupleC (qCons (qLc false (qiRng1 (qCons (qCB qLen (qCons (qv 1) qNil)) qNil)) (qgN 4) qYes (qIf (qTest (qOp qGt (qOp qIx (qv 3) (qv 4)) (qc (.d (.int 0))))) (qOp qSub (qOp qIx (qv 3) (qv 4)) (qOp qIx (qv 1) (qv 4))) (qc (.d (.int 0)))) [4]) qNil)))) qNext))
  (qRet (qCall sp_law_least_parts (qCons (qv 2) qNil)))))
/-- primes(ideal) slots: 0=ideal 1=part -/
def rd_primes (sp_components : SpD) (sp_support_of : SpD) : TDs :=
  (qRet (qCB qTupleC (qCons (BS.qSortB false (qLc false (qiSeq (qCall sp_components (qCons (qv 0) qNil))) (qgN 1) qYes (qCall sp_support_of (qCons (qv 1) qNil)) [1])) qNil)))
/-- dimension(ideal) slots: 0=ideal 1=line 2=prime -/
def rd_dimension (sp_primes : SpD) : TDs :=
  (qSeq (qAsg (qCall sp_primes (qCons (qv 0) qNil)) (qgN 1))
  (qSeq (qIfS (qTest (qOp qEq (qv 1) (qTup qNil))) (qRet (qUn qNeg (qc (.d (.int 1))))) qNext)
  (qRet (qOp qSub (qOp qIx (qv 0) (qc (.d (.int 0)))) (qCB qMin1 (qCons (qLc false (qiSeq (qv 1)) (qgN 2) qYes (qCB qLen (qCons (qv 2) qNil)) [2]) qNil))))))
/-- _law_support(a) slots: 0=a 1=k -/
def rd_law_support : TDs :=
  (qRet (qCB qTupleC (qCons (qLc false (qiRng1 (qCons (qCB qLen (qCons (qv 0) qNil)) qNil)) (qgN 1) (qTest (qOp qGt (qOp qIx (qv 0) (qv 1)) (qc (.d (.int 0))))) (qv 1) [1]) qNil)))
/-- _law_subsets(some) slots: 0=some 1=found 2=one 3=a -/
def rd_law_subsets : TDs :=
  (qSeq (qAsg (qLst true (qCons (qTup qNil) qNil)) (qgN 1))
  (qSeq (qFor (qiSeq (qv 0)) (qgN 2) (qDrop (qExtend (qv 1) (qLc false (qiSeq (qv 1)) (qgN 3) qYes (qOp (qAdd false) (qv 3) (qTup (qCons (qv 2) qNil))) [3]))))
  (qRet (qv 1))))
/-- minimal_primes(ideal) slots: 0=ideal 1=line 2=found 3=prime 4=other 5=i -/
def rd_minimal_primes (sp_primes : SpD) : TDs :=
  (qSeq (qAsg (qCall sp_primes (qCons (qv 0) qNil)) (qgN 1))
  (qSeq (qAsg (qLst true qNil) (qgN 2))
  (qSeq (qFor (qiSeq (qv 1)) (qgN 3) (qIfS (qNotT (qTest (qCB qAny (qCons (qLc false (qiSeq (qv 1)) (qgN 4) qYes (qAndV (qOp qNe (qv 4) (qv 3)) (qCB qAll (qCons (qLc false (qiSeq (qv 4)) (qgN 5) qYes (qOp (qIn false) (qv 5) (qv 3)) [5]) qNil))) [4]) qNil)))) (qDrop (qAppend (qv 2) (qv 3))) qNext))
  (qRet (qCB qTupleC (qCons (qv 2) qNil))))))
/-- _law_holds(one, other) slots: 0=one 1=other 2=k -/
def rd_law_holds : TDs :=
  (qRet (qOp qEq (qLc false (qiSeq (qv 1)) (qgN 2) (qTest (qOp (qIn true) (qv 2) (qv 0))) (qv 2) [2]) (qLst false qNil)))
end RD
end

section
set_option linter.all false
set_option maxRecDepth 100000
set_option maxHeartbeats 1000000
open PySem L2 DL
local macro_rules | `(tactic| walk_at "E") => `(tactic| (try simp only [qAsg, qRet, qDrop, qIfS, qTest, qAndT, qOrT, qNotT, qAndV, qOrV, qNotV, qIf, qOp, qUn, qChain, onB, qv, qc, qgN, qgT, qgCons, qgNil, qCons, qNil, qTup, qLst, qPar, qPar3, qAug, qCB, qCall, qLen, qTupleC, qListC, qMax2, qMin2, qIntC, qSum, qAny, qAll, qIsi, tyName, qAdd, qSub, qMul, qFdiv, qMod, qPow, qI2, qCmpI, qEq, qNe, qLt, qLe, qGt, qGe, qNeg, qIx, qDGet, qDIn, qDPut, qSl, qPart, qNoPart, qNext, qFor, qiSeq, qiRng1, qiRng2, qiZip, qiEnum, qLc, seqSrc, lsrc, titems, litems, sitems, fz, newL, List.getElem?_cons_zero, List.getElem?_cons_succ, List.set_cons_zero, List.set_cons_succ, if_true, if_false, Bool.false_eq_true, ite_true, ite_false, up_same, reduceIte, decide_true, decide_false, true_and, and_true]))
namespace UC
open PySem L2 DL RD
/-! what all laws share: the draws -/
abbrev I (i : Int) : DV := .d (.int i)
abbrev Bo (b : Bool) : DV := .d (.bool b)
def mkM (left seed : Int) (cells : List Int) (spot : Int) : MO := .dK [(.inr "left", I left), (.inr "seed", I seed), (.inr "cells", .d (.list (cells.map .int))), (.inr "spot", I spot)]
def DrawSt (st : Sto) (a : Addr) (B : Nat) : Prop := ∃ (left seed : Int) (cells : List Int) (spot : Int), st a = some (mkM left seed cells spot) ∧ cells ≠ [] ∧ 0 ≤ spot ∧ spot ≤ B
theorem DrawSt.mono {st : Sto} {a : Addr} {B B' : Nat} (h : DrawSt st a B) (hb : B ≤ B') : DrawSt st a B' := by
  obtain ⟨l, s, c, p, h1, h2, h3, h4⟩ := h
  exact ⟨l, s, c, p, h1, h2, h3, by omega⟩
theorem look_left {l s : Int} {c : List Int} {p : Int} : dlook (some (mkM l s c p)) (.d (.str "left")) = some (some (I l)) := by rfl
theorem look_seed {l s : Int} {c : List Int} {p : Int} : dlook (some (mkM l s c p)) (.d (.str "seed")) = some (some (I s)) := by rfl
theorem look_cells {l s : Int} {c : List Int} {p : Int} : dlook (some (mkM l s c p)) (.d (.str "cells")) = some (some (.d (.list (c.map .int)))) := by rfl
theorem look_spot {l s : Int} {c : List Int} {p : Int} : dlook (some (mkM l s c p)) (.d (.str "spot")) = some (some (I p)) := by rfl
theorem put_left {l s l' : Int} {c : List Int} {p : Int} : dput (some (mkM l s c p)) (.d (.str "left")) (I l') = some (mkM l' s c p) := by rfl
theorem put_spot {l s p' : Int} {c : List Int} {p : Int} : dput (some (mkM l s c p)) (.d (.str "spot")) (I p') = some (mkM l s c p') := by rfl
def sp_law_draw : SpD := fun xs st Q => ∃ (a : Addr) (below : Int) (B : Nat), xs = [.r a, I below] ∧ 1 ≤ below ∧ below < 2 ^ 30 ∧ B < 2 ^ 50 ∧ DrawSt st a B ∧
  ∀ (v : Int) st', 0 ≤ v → v < below → DrawSt st' a (B + 1) → (∀ b, b ≠ a → st' b = st b) → Q (I v) st'
theorem sem_law_draw : ∀ xs st Q, sp_law_draw xs st Q → rd_law_draw { nx := fun _ st' => Fg Q (.d .none) st', rt := Fg Q } (startD 8 xs) st := by
  rintro xs st Q ⟨a, below, B, rfl, h1, h2, hB, ⟨left, seed, cells, spot, hm, hc, hs0, hsB⟩, k⟩
  have e0 : startD 8 [.r a, I below] = [some (.r a), some (I below), none, none, none, none, none, none] := rfl
  rw [e0]
  unfold rd_law_draw
  refine seq fun N hN => ?_
  walk_at "E"
  simp only [hm, look_left]
  walk_at "E"
  by_cases hl : 0 < left
  · simp only [hl, decide_true, if_true]
    refine seq fun N1 hN1 => ?_
    walk_at "E"
    simp only [hm, look_left]
    walk_at "E"
    refine ⟨by omega, hN1 _ _ ?_⟩
    refine seq fun N2 hN2 => ?_
    walk_at "E"
    simp only [hm, look_left, put_left]
    walk_at "E"
    refine ⟨.inl ⟨by omega, by omega⟩, hN2 _ _ ?_⟩
    walk_at "E"
    obtain ⟨r1, r2⟩ := fmod_range (i := left) (j := below) (by omega)
    exact ⟨_, Le.refl _, k _ _ r1 r2 ⟨_, seed, cells, spot, up_same, hc, hs0, by omega⟩ fun b hb => up_ne hb⟩
  · simp only [hl, decide_false]
    walk_at "E"
    refine hN _ _ ?_
    clear hN N
    refine seq fun N hN => ?_
    walk_at "E"
    simp only [hm, look_spot]
    refine hN _ _ ?_
    clear hN N
    refine seq fun N hN => ?_
    walk_at "E"
    simp only [hm, put_spot]
    walk_at "E"
    refine hN _ _ ?_
    clear hN N
    refine seq fun N hN => ?_
    walk_at "E"
    simp only [up_same, look_cells, look_seed]
    walk_at "E"
    refine ⟨cmul_l (by omega) (by omega), cmul_r (by omega) (by omega), hN _ _ ?_⟩
    clear hN N
    have hlen : 0 < cells.length := List.length_pos_iff.mpr hc
    obtain ⟨j, hj, hjl⟩ : ∃ j : Nat, spot.fmod (cells.length : Int) = (j : Int) ∧ j < cells.length := by
      obtain ⟨r1, r2⟩ := fmod_range (i := spot) (j := (cells.length : Int)) (by omega)
      exact ⟨(spot.fmod (cells.length : Int)).toNat, by omega, by omega⟩
    refine seq fun N hN => ?_
    walk_at "E"
    simp only [List.length_map, hj, atI_map2 hjl]
    refine ⟨by omega, hN _ _ ?_⟩
    clear hN N
    refine seq fun N hN => ?_
    walk_at "E"
    refine ⟨cmul_l (by omega) (by omega), cmul_r (by omega) (by omega), by omega, hN _ _ ?_⟩
    clear hN N
    generalize hb1 : (cells[j] * (2 * spot + 3) + (seed + 40503 * spot * spot)).fmod 2147483647 = b1
    obtain ⟨r1, r2⟩ := fmod_range (i := cells[j] * (2 * spot + 3) + (seed + 40503 * spot * spot)) (j := 2147483647) (by omega)
    rw [hb1] at r1 r2
    refine seq fun N hN => ?_
    walk_at "E"
    simp only [up_same, look_seed]
    walk_at "E"
    refine ⟨cmul_l (by omega) (by omega), cmul_l (by omega) (by omega), by omega, hN _ _ ?_⟩
    clear hN N
    generalize hb2 : (b1 * b1 + 69621 * spot + seed).fmod 2147483629 = b2
    obtain ⟨r3, r4⟩ := fmod_range (i := b1 * b1 + 69621 * spot + seed) (j := 2147483629) (by omega)
    rw [hb2] at r3 r4
    walk_at "E"
    refine ⟨cmul_l (by omega) (by omega), by omega, .inl ⟨by omega, by omega⟩, by omega, ?_⟩
    obtain ⟨r5, r6⟩ := fmod_range (i := (((b2 * 48271 + spot).fmod 2147483647).fdiv 11)) (j := below) (by omega)
    exact ⟨_, Le.refl _, k _ _ r5 r6 ⟨left, seed, cells, spot + 1, up_same, hc, by omega, by omega⟩ fun b hb => up_ne hb⟩

theorem len_law_draw : ∀ xs st Q, sp_law_draw xs st Q → xs.length = 2 := by
  rintro xs st Q ⟨a, below, B, rfl, _⟩
  rfl
/-- the cells of a turn -/
def sp_law_begun : SpD := fun xs st Q => ∃ (ns : List Int) (k : Int), xs = [.d (.list (ns.map .int)), I k] ∧ ns.length ≤ 63 ∧ 0 ≤ k ∧ k < 2 ^ 40 ∧
  ∀ p st', st p = none → DrawSt st' p 0 → (∀ b, b ≠ p → st' b = st b) → Q (.r p) st'
theorem len_law_begun : ∀ xs st Q, sp_law_begun xs st Q → xs.length = 2 := by
  rintro xs st Q ⟨ns, k, rfl, _⟩
  rfl
theorem sem_law_begun : ∀ xs st Q, sp_law_begun xs st Q → rd_law_begun { nx := fun _ st' => Fg Q (.d .none) st', rt := Fg Q } (startD 6 xs) st := by
  rintro xs st Q ⟨ns, k, rfl, h1, h2, h3, K⟩
  have e0 : startD 6 [.d (.list (ns.map .int)), I k] = [some (.d (.list (ns.map .int))), some (I k), none, none, none, none] := rfl
  rw [e0]
  unfold rd_law_begun
  refine seq fun N hN => ?_
  walk_at "E"
  simp only [cutD_map, datas_map, ← List.map_append]
  walk_at "E"
  generalize hcs : (cutD ns (some k) none ++ cutD ns none (some k)) = cs
  have hl : cs.length ≤ 126 := by
    rw [← hcs, List.length_append]
    have a := cutD_len ns (some k) none
    have b := cutD_len ns none (some k)
    omega
  have hl2 : (List.map PyData.int (cutD ns (some k) none)).length + (List.map PyData.int (cutD ns none (some k))).length ≤ sizeLine := by
    have a := cutD_len ns (some k) none
    have b := cutD_len ns none (some k)
    rw [List.length_map, List.length_map, sizeL]
    omega
  simp only [List.length_map] at hl2 ⊢
  refine ⟨hl2, hN _ _ ?_⟩
  clear hN N
  -- great
  refine seq fun N hN => ?_
  walk_at "E"
  refine ⟨by simp only [List.length_map, sizeL]; omega, ?_⟩
  refine comp_fm (fun x => match x with | .d (.int i) => decide (10 ^ 18 ≤ i) | _ => false) id trivial _ _ ?_ ?_
  · intro x hx Q1 Q2 h
    rw [List.mem_map] at hx
    obtain ⟨y, hy, rfl⟩ := hx
    rw [List.mem_map] at hy
    obtain ⟨i, hi, rfl⟩ := hy
    simp only [wipeD]
    walk_at "E"
    simp only [id] at h
    simp only [CPow]
    exact ⟨by decide, h⟩
  · obtain ⟨gs, hgs⟩ : ∃ gs : List Int, (([] : List DV) ++ ((cs.map PyData.int).map DV.d |>.filter (fun x => match x with | .d (.int i) => decide (10 ^ 18 ≤ i) | _ => false)).map id) = (gs.map PyData.int).map DV.d := by
      refine ⟨cs.filter fun i => decide (10 ^ 18 ≤ i), ?_⟩
      rw [List.nil_append, List.map_id, List.map_map, List.map_map, List.filter_map]
      rfl
    rw [hgs]
    simp only [newL, datas_map]
    refine hN _ _ ?_
    clear hN N
    refine seq fun N hN => ?_
    walk_at "E"
    refine hN _ _ ?_
    clear hN N
    -- the seed
    refine seq fun N hN => ?_
    walk_at "E"
    refine for_by (fun _ ε s => s = st ∧ ∃ (seed : Int) (x : Option DV), 0 ≤ seed ∧ seed < 2 ^ 50 ∧ ε = [some (.d (.list (ns.map .int))), some (I k), some (.d (.list (cs.map .int))), some (.d (.list (gs.map .int))), some (I seed), x]) ⟨rfl, 71 + k, none, by omega, by omega, rfl⟩ (fun _ _ _ _ => trivial) ?_ ?_
    · rintro x ys ε s hx ⟨rfl, seed, y, s1, s2, rfl⟩ L hL
      rw [List.mem_map] at hx
      obtain ⟨z, hz, rfl⟩ := hx
      rw [List.mem_map] at hz
      obtain ⟨i, hi, rfl⟩ := hz
      walk_at "E"
      obtain ⟨r1, r2⟩ := fmod_range (i := seed * 48271 + i) (j := 2147483647) (by omega)
      exact ⟨cmul_l (by omega) (by omega), by omega, hL _ _ ⟨rfl, _, _, r1, by omega, rfl⟩⟩
    · rintro ε s ⟨rfl, seed, y, s1, s2, rfl⟩
      refine hN _ _ ?_
      clear hN N
      simp only [qRet, qDisp, qPairs]
      walk_at "E"
      have fin : ∀ l0 : Int, (∀ p, s p = none → Fg Q (.r p) (up s p (mkM l0 seed (cs ++ [53 * k + 11]) 0))) := fun l0 p hp =>
        ⟨_, Le.refl _, K p _ hp ⟨l0, seed, _, 0, up_same, by simp, by omega, by omega⟩ fun b hb => up_ne hb⟩
      have e1 : datas [DV.d (PyData.int (53 * k + 11))] = some [PyData.int (53 * k + 11)] := rfl
      have e2 : (List.map DV.d (List.map PyData.int cs) ++ List.map DV.d [PyData.int (53 * k + 11)]) = List.map DV.d (List.map PyData.int (cs ++ [53 * k + 11])) := by simp
      have e3 : datas [] = some [] := rfl
      simp only [e1, e2, e3, datas_map, eqv_nilL, shaped_nilL, shaped_LI, List.length_map, List.length_nil, List.length_singleton, true_and]
      refine ⟨by decide, ?_⟩
      by_cases hg : gs = []
      · simp only [hg, decide_true, Bool.not_true, Bool.false_eq_true, if_false]
        exact ⟨cmul_l (by omega) (by omega), by decide, by rw [sizeL]; omega, show 4 ≤ 15 by decide, fin 0⟩
      · simp only [hg, decide_false, Bool.not_false, if_true]
        cases gs with
        | nil => exact absurd rfl hg
        | cons g0 gr =>
          have e4 : atI (List.map DV.d (List.map PyData.int (g0 :: gr))) 0 = some (.d (.int g0)) := atI_map2 (j := 0) (by simp)
          simp only [e4]
          exact ⟨cmul_l (by omega) (by omega), by decide, by rw [sizeL]; omega, show 4 ≤ 15 by decide, fin g0⟩
/-- one of some things -/
def sp_law_of : SpD := fun xs st Q => ∃ (a : Addr) (x : DV) (l : List PyData) (B : Nat), xs = [.r a, x] ∧ (x = .d (.list l) ∨ x = .d (.tuple l)) ∧ l ≠ [] ∧ l.length < 2 ^ 30 ∧ B < 2 ^ 50 ∧ DrawSt st a B ∧
  ∀ (v : PyData) st', v ∈ l → DrawSt st' a (B + 1) → (∀ b, b ≠ a → st' b = st b) → Q (.d v) st'
theorem len_law_of : ∀ xs st Q, sp_law_of xs st Q → xs.length = 2 := by
  rintro xs st Q ⟨a, x, its, B, rfl, _⟩
  rfl
theorem sem_law_of : ∀ xs st Q, sp_law_of xs st Q → rd_law_of sp_law_draw { nx := fun _ st' => Fg Q (.d .none) st', rt := Fg Q } (startD 2 xs) st := by
  rintro xs st Q ⟨a, x, l, B, rfl, hx, h0, h1, hB, D, K⟩
  have e0 : startD 2 [.r a, x] = [some (.r a), some x] := rfl
  rw [e0]
  unfold rd_law_of
  have hl : 0 < l.length := List.length_pos_iff.mpr h0
  rcases hx with rfl | rfl
  all_goals
    walk_at "E"
    simp only [List.length_map]
    refine ⟨a, _, B, rfl, by omega, by omega, hB, D, fun v st' v0 v1 D' k => ?_⟩
    obtain ⟨j, rfl⟩ : ∃ j : Nat, v = (j : Int) := ⟨v.toNat, by omega⟩
    have hj : j < l.length := by omega
    have e1 : atI (List.map DV.d l) (j : Int) = some (.d l[j]) := atI_nat (by rw [List.getElem?_map, List.getElem?_eq_getElem hj]; rfl)
    simp only [e1]
    exact ⟨_, Le.refl _, K _ _ (List.getElem_mem hj) D' k⟩
end UC
end

section
set_option linter.all false
set_option maxRecDepth 100000
set_option maxHeartbeats 1000000
namespace UC
open PySem L2 DL RD
/-! more for laws -/
theorem draw {st : Sto} {a : Addr} {B : Nat} {below : Int} {Q : DV → Sto → Prop} (D : DrawSt st a B) (h1 : 1 ≤ below) (h2 : below < 2 ^ 30) (hB : B < 2 ^ 50)
    (k : ∀ (v : Int) st', 0 ≤ v → v < below → DrawSt st' a (B + 1) → (∀ b, b ≠ a → st' b = st b) → Q (I v) st') : sp_law_draw [.r a, I below] st Q := ⟨a, below, B, rfl, h1, h2, hB, D, k⟩
theorem drawOf {st : Sto} {a : Addr} {B : Nat} {l : List PyData} {Q : DV → Sto → Prop} (D : DrawSt st a B) (h0 : l ≠ []) (h1 : l.length < 2 ^ 30) (hB : B < 2 ^ 50)
    (k : ∀ (v : PyData) st', v ∈ l → DrawSt st' a (B + 1) → (∀ b, b ≠ a → st' b = st b) → Q (.d v) st') : sp_law_of [.r a, .d (.list l)] st Q := ⟨a, _, l, B, rfl, .inl rfl, h0, h1, hB, D, k⟩
theorem drawOfT {st : Sto} {a : Addr} {B : Nat} {l : List PyData} {Q : DV → Sto → Prop} (D : DrawSt st a B) (h0 : l ≠ []) (h1 : l.length < 2 ^ 30) (hB : B < 2 ^ 50)
    (k : ∀ (v : PyData) st', v ∈ l → DrawSt st' a (B + 1) → (∀ b, b ≠ a → st' b = st b) → Q (.d v) st') : sp_law_of [.r a, .d (.tuple l)] st Q := ⟨a, _, l, B, rfl, .inr rfl, h0, h1, hB, D, k⟩
theorem drawI {st : Sto} {a : Addr} {B : Nat} {Q : DV → Sto → Prop} (l : List Int) (D : DrawSt st a B) (h0 : l ≠ []) (h1 : l.length < 2 ^ 30) (hB : B < 2 ^ 50)
    (k : ∀ (i : Int) st', i ∈ l → DrawSt st' a (B + 1) → (∀ b, b ≠ a → st' b = st b) → Q (I i) st') : sp_law_of [.r a, .d (.list (l.map .int))] st Q := drawOf D (by simpa using h0) (by simpa using h1) hB fun v st' hv D' fr => by
  obtain ⟨i, hi, rfl⟩ := List.mem_map.mp hv
  exact k i st' hi D' fr
theorem begun {st : Sto} {ns : List Int} {k : Int} {Q : DV → Sto → Prop} (h1 : ns.length ≤ 63) (h2 : 0 ≤ k) (h3 : k < 2 ^ 40) (K : ∀ p st', DrawSt st' p 0 → (∀ b, b ≠ p → st' b = st b) → Q (.r p) st') : sp_law_begun [.d (.list (ns.map .int)), I k] st Q := ⟨ns, k, rfl, h1, h2, h3, fun p st' _ => K p st'⟩
/-- a comprehension whose elements draw, with the index -/
theorem comp_wordI {α : Type} (h : α → DV) {inv : Sto → Prop} {g : TDg} {te : TD} {ε : DL.Env} {Kc : List DV → Sto → Prop} (W : Nat → List DV → Sto → Prop) (hi : ∀ i acc st, W i acc st → inv st) (l : List α) (st : Sto) (w0 : W 0 [] st)
    (hx : ∀ i p acc st, l[i]? = some p → W i acc st → ∀ Q : DV → Sto → Prop, (∀ y s, W (i + 1) (acc ++ [y]) s → Q y s) → g (h p) ε st fun ε1 s1 => te ε1 s1 Q) (k : ∀ acc st, W l.length acc st → Kc acc st) : qComp inv g qYes te ε Kc (l.map h) [] st := by
  have : ∀ (r : List α) (i : Nat) acc st, l.drop i = r → i + r.length = l.length → W i acc st → qComp inv g qYes te ε Kc (r.map h) acc st := by
    intro r
    induction r with
    | nil =>
      intro i acc st hdr hlen w
      have e : i = l.length := by simpa using hlen
      subst e
      exact ⟨hi _ _ _ w, k _ _ w⟩
    | cons y r ih =>
      intro i acc st hdr hlen w
      have hx' : l[i]? = some y := by
        have := congrArg (fun z => z[0]?) hdr
        simp only [List.getElem?_drop, List.getElem?_cons_zero, Nat.add_zero] at this
        exact this
      refine ⟨hi _ _ _ w, ?_⟩
      refine hx i y acc st hx' w (fun z s3 => qComp inv g qYes te ε Kc (r.map h) (acc ++ [z]) s3) fun z s w' => ?_
      refine ih (i + 1) (acc ++ [z]) s ?_ (by simp only [List.length_cons] at hlen; omega) w'
      rw [← List.drop_drop, hdr]
      rfl
  exact this l 0 [] st rfl (by simp) w0
theorem range_some {n i p : Nat} (h : (List.range n)[i]? = some p) : p = i ∧ i < n := by
  by_cases hlt : i < n
  · rw [List.getElem?_range hlt] at h
    cases h
    exact ⟨rfl, hlt⟩
  · rw [List.getElem?_eq_none (by rw [List.length_range]; omega)] at h
    cases h
theorem kitB_tt : kitB "tuple" "tuple" = some true := by decide +kernel
theorem kitB_ll : kitB "list" "list" = some true := by decide +kernel
theorem kitB_dd : kitB "dict" "dict" = some true := by decide +kernel
theorem kitB_bb : kitB "bool" "bool" = some true := by decide +kernel
theorem kitB_ib : kitB "int" "bool" = some false := by decide +kernel
theorem kitB_ii : kitB "int" "int" = some true := by decide +kernel
theorem kitB_ss : kitB "str" "str" = some true := by decide +kernel
theorem kitB_tl : kitB "tuple" "list" = some false := by decide +kernel
theorem kitB_lt : kitB "list" "tuple" = some false := by decide +kernel
/-- reading of a cell -/
def gd (a : List Int) (j : Nat) : Int := a.getD j 0
theorem gd_eq {a : List Int} {j : Nat} (h : j < a.length) : a[j] = gd a j := by
  unfold gd
  rw [List.getD_eq_getElem?_getD, List.getElem?_eq_getElem h]
  rfl
theorem atI_gd {a : List Int} {j : Nat} (h : j < a.length) : atI (List.map DV.d (List.map PyData.int a)) (j : Int) = some (I (gd a j)) := by
  rw [atI_map2 (f := PyData.int) h, gd_eq h]
theorem range_gd (a : List Int) : (List.range a.length).map (gd a) = a := by
  refine List.ext_getElem (by simp) fun i h1 h2 => ?_
  rw [List.getElem_map, List.getElem_range, gd_eq h2]
theorem range_zw {f : Int → Int → Int} {a b : List Int} {n : Nat} (ha : a.length = n) (hb : b.length = n) : (List.range n).map (fun j => f (gd a j) (gd b j)) = List.zipWith f a b := by
  refine List.ext_getElem (by simp; omega) fun i h1 h2 => ?_
  rw [List.getElem_map, List.getElem_range, List.getElem_zipWith, gd_eq, gd_eq]
theorem zip_range {a b : List Int} {n : Nat} (ha : a.length = n) (hb : b.length = n) : a.zip b = (List.range n).map fun j => (gd a j, gd b j) := by
  refine List.ext_getElem (by simp; omega) fun i h1 h2 => ?_
  rw [List.getElem_map, List.getElem_range, List.getElem_zip, gd_eq, gd_eq]
theorem zipIdx_range (a : List Int) : a.zipIdx = (List.range a.length).map fun j => (gd a j, j) := by
  refine List.ext_getElem (by simp) fun i h1 h2 => ?_
  rw [List.getElem_map, List.getElem_range, List.getElem_zipIdx, Nat.zero_add, gd_eq]
theorem gd_mem {a : List Int} {j : Nat} (h : j < a.length) : gd a j ∈ a := by
  rw [← gd_eq h]
  exact List.getElem_mem h
theorem rngD0 (n : Nat) : rngD 0 n = (List.range n).map fun (j : Nat) => I (j : Int) := by
  unfold rngD
  refine List.map_congr_left fun j _ => ?_
  rw [Int.zero_add]
theorem gd_ext {a b : List Int} {n : Nat} (ha : a.length = n) (hb : b.length = n) : a = b ↔ ∀ j < n, gd a j = gd b j := by
  constructor
  · rintro rfl j hj
    rfl
  · intro h
    rw [← range_gd a, ← range_gd b, ha, hb]
    exact List.map_congr_left fun j hj => h j (List.mem_range.mp hj)
theorem gd_zw {f : Int → Int → Int} {a b : List Int} {n j : Nat} (ha : a.length = n) (hb : b.length = n) (hj : j < n) : gd (List.zipWith f a b) j = f (gd a j) (gd b j) := by
  rw [← gd_eq (by rw [List.length_zipWith]; omega), List.getElem_zipWith, gd_eq, gd_eq]
theorem gd_rep {n j : Nat} {x : Int} (hj : j < n) : gd (List.replicate n x) j = x := by
  rw [← gd_eq (by rw [List.length_replicate]; exact hj), List.getElem_replicate]
theorem len_zw {f : Int → Int → Int} {a b : List Int} {n : Nat} (ha : a.length = n) (hb : b.length = n) : (List.zipWith f a b).length = n := by
  rw [List.length_zipWith]; omega
theorem filter_nil {α : Type} {l : List α} {p : α → Bool} : l.filter p = [] ↔ ∀ x ∈ l, p x = false := by
  rw [List.filter_eq_nil_iff]
  constructor
  · intro h x hx
    exact Bool.eq_false_iff.mpr (h x hx)
  · intro h x hx e
    rw [h x hx] at e
    cases e
theorem bool_dec {b : Bool} {p : Prop} [Decidable p] (h : b = true ↔ p) : b = decide p := by
  cases b with
  | true => exact (decide_eq_true (h.mp rfl)).symm
  | false => exact (decide_eq_false fun hp => Bool.false_ne_true (h.mpr hp)).symm
theorem flat_rep {α : Type} (n : Nat) (x : α) : (List.replicate n [x]).flatten = List.replicate n x := by
  induction n with
  | zero => rfl
  | succ n ih => rw [List.replicate_succ, List.flatten_cons, ih]; rfl
theorem rep_I (n : Nat) (x : Int) : mkT (List.replicate n [I x]).flatten = .d (TI (List.replicate n x)) := by
  rw [flat_rep, ← List.map_replicate (f := I), show (List.map I (List.replicate n x)) = (List.map PyData.int (List.replicate n x)).map DV.d by rw [List.map_map]; rfl, mkT_map]
theorem turns (l : Nat) (m M : Int) (h : 0 ≤ m) (hM : m ≤ M) : ∃ t : Nat, (if (if M < (l : Int) then M else (l : Int)) > m then (if M < (l : Int) then M else (l : Int)) else m) = (t : Int) ∧ (t : Int) ≤ M := by
  refine ⟨(if (if M < (l : Int) then M else (l : Int)) > m then (if M < (l : Int) then M else (l : Int)) else m).toNat, ?_, ?_⟩ <;> split <;> split <;> omega
theorem le_size4 : (0 + 1 + 1 + 1 + 1 ≤ sizeLine) = True := by decide
theorem I_eq (i : Int) : I i = .d (.int i) := rfl
theorem Bo_eq (i : Bool) : Bo i = .d (.bool i) := rfl
theorem ints_dv {α : Type} (f : α → Int) (l : List α) : List.map (fun x => I (f x)) l = ((l.map f).map PyData.int).map DV.d := by
  rw [List.map_map, List.map_map]
  rfl
theorem ints_dv0 {α : Type} (f : α → Int) (l : List α) : [] ++ List.map (fun x => I (f x)) l = ((l.map f).map PyData.int).map DV.d := by
  rw [List.nil_append, ints_dv]
end UC
end

section
set_option linter.all false
set_option maxRecDepth 100000
set_option maxHeartbeats 1000000
namespace UC
open PySem L2 DL RD
/-! monomials and least ones: plain -/
def divB (a b : List Int) : Bool := (a.zip b).all fun p => decide (p.1 ≤ p.2)
def lcmL (a b : List Int) : List Int := List.zipWith max a b
def gcdL (a b : List Int) : List Int := List.zipWith min a b
def mulL (a b : List Int) : List Int := List.zipWith (· + ·) a b
def cutL (a b : List Int) : List Int := List.zipWith (fun x y => max (x - y) 0) a b
/-- a monomial of n variables, its exponents at most w -/
def Mon (n : Nat) (w : Int) (a : List Int) : Prop := a.length = n ∧ ∀ x ∈ a, 0 ≤ x ∧ x ≤ w
theorem Mon.mono {n : Nat} {w w' : Int} {a : List Int} (h : Mon n w a) (hw : w ≤ w') : Mon n w' a := ⟨h.1, fun x hx => ⟨(h.2 x hx).1, Int.le_trans (h.2 x hx).2 hw⟩⟩
theorem Mon.bd {n : Nat} {w : Int} {a : List Int} (h : Mon n w a) : TS.Bd (w + 1) a := fun x hx => ⟨(h.2 x hx).1, by have := (h.2 x hx).2; omega⟩
theorem divB_iff {a b : List Int} {n : Nat} (ha : a.length = n) (hb : b.length = n) : divB a b = true ↔ ∀ j < n, gd a j ≤ gd b j := by
  unfold divB
  rw [zip_range ha hb, List.all_eq_true]
  constructor
  · intro h j hj
    exact of_decide_eq_true (h _ (List.mem_map.mpr ⟨j, List.mem_range.mpr hj, rfl⟩))
  · intro h x hx
    obtain ⟨j, hj, rfl⟩ := List.mem_map.mp hx
    exact decide_eq_true (h j (List.mem_range.mp hj))
theorem divB_refl (a : List Int) : divB a a = true := (divB_iff rfl rfl).mpr fun j _ => Int.le_refl _
theorem divB_trans {a b c : List Int} {n : Nat} (ha : a.length = n) (hb : b.length = n) (hc : c.length = n) (h1 : divB a b = true) (h2 : divB b c = true) : divB a c = true :=
  (divB_iff ha hc).mpr fun j hj => Int.le_trans ((divB_iff ha hb).mp h1 j hj) ((divB_iff hb hc).mp h2 j hj)
theorem divB_anti {a b : List Int} {n : Nat} (ha : a.length = n) (hb : b.length = n) (h1 : divB a b = true) (h2 : divB b a = true) : a = b :=
  (gd_ext ha hb).mpr fun j hj => Int.le_antisymm ((divB_iff ha hb).mp h1 j hj) ((divB_iff hb ha).mp h2 j hj)
theorem divB_lex : ∀ {a b : List Int}, a.length = b.length → divB a b = true → a = b ∨ lexL a b = true
  | [], [], _, _ => .inl rfl
  | x :: a, y :: b, hl, h => by
    simp only [divB, List.zip_cons_cons, List.all_cons, Bool.and_eq_true, decide_eq_true_eq] at h
    have hl' : a.length = b.length := by simpa using hl
    simp only [lexL, Bool.or_eq_true, Bool.and_eq_true, decide_eq_true_eq, List.cons.injEq]
    by_cases e : x = y
    · rcases divB_lex hl' h.2 with k | k
      · exact .inl ⟨e, k⟩
      · exact .inr (.inr ⟨e, k⟩)
    · exact .inr (.inl (by omega))
/-- those that no other one divides, sorted -/
def minL (S : List (List Int)) : List (List Int) := (sortU S).filter fun a => decide ((sortU S).filter (fun b => decide (b ≠ a) && divB b a) = [])
def stepL (acc : List (List Int)) (m : List Int) : List (List Int) := if (acc.map fun o => divB o m).any id = true then acc else acc ++ [m]
structure Mins (S R : List (List Int)) : Prop where
  ris : RisL R
  sub : ∀ r ∈ R, r ∈ S
  cov : ∀ s ∈ S, ∃ r ∈ R, divB r s = true
  anti : ∀ r ∈ R, ∀ r' ∈ R, divB r r' = true → r = r'
theorem mins_minL {S : List (List Int)} {n : Nat} (hS : ∀ s ∈ S, s.length = n) : Mins S (minL S) := by
  have hq : ∀ s ∈ sortU S, s.length = n := fun s hs => hS s (mem_sortU.mp hs)
  refine ⟨(ris_sortU S).sublist List.filter_sublist, fun r hr => mem_sortU.mp (List.mem_filter.mp hr).1, fun s hs => ?_, fun r hr r' hr' h => ?_⟩
  · have hT : RisL ((sortU S).filter fun b => divB b s) := (ris_sortU S).sublist List.filter_sublist
    have hs' : s ∈ (sortU S).filter fun b => divB b s := List.mem_filter.mpr ⟨mem_sortU.mpr hs, divB_refl s⟩
    cases e : (sortU S).filter (fun b => divB b s) with
    | nil => rw [e] at hs'; cases hs'
    | cons r T =>
      have hr : r ∈ (sortU S).filter fun b => divB b s := by rw [e]; exact List.mem_cons_self
      obtain ⟨r1, r2⟩ := List.mem_filter.mp hr
      refine ⟨r, List.mem_filter.mpr ⟨r1, decide_eq_true ?_⟩, r2⟩
      rw [List.filter_eq_nil_iff]
      intro b hb hh
      simp only [Bool.and_eq_true, decide_eq_true_eq] at hh
      have hb2 : b ∈ (sortU S).filter fun b => divB b s := List.mem_filter.mpr ⟨hb, divB_trans (hq b hb) (hq r r1) (hS s hs) hh.2 r2⟩
      rw [e] at hb2 hT
      rcases List.mem_cons.mp hb2 with z | z
      · exact hh.1 z
      · have k1 := (List.pairwise_cons.mp hT).1 b z
        rcases divB_lex ((hq b hb).trans (hq r r1).symm) hh.2 with k | k
        · exact hh.1 k
        · have := lexL_tr k1 k
          rw [lexL_irr] at this
          cases this
  · obtain ⟨a1, a2⟩ := List.mem_filter.mp hr
    obtain ⟨b1, b2⟩ := List.mem_filter.mp hr'
    have := List.filter_eq_nil_iff.mp (of_decide_eq_true b2) r a1
    simp only [Bool.and_eq_true, decide_eq_true_eq, not_and] at this
    exact Classical.byContradiction fun hne => this hne h
theorem mins_fold {n : Nat} : ∀ (post acc pre : List (List Int)), RisL (pre ++ post) → (∀ s ∈ pre ++ post, s.length = n) → Mins pre acc → Mins (pre ++ post) (post.foldl stepL acc)
  | [], acc, pre, _, _, h => by rw [List.append_nil]; exact h
  | m :: post, acc, pre, hr, hl, h => by
    have e : pre ++ m :: post = (pre ++ [m]) ++ post := by simp
    have hm : m.length = n := hl m (by simp)
    rw [e] at hr hl ⊢
    refine mins_fold post (stepL acc m) (pre ++ [m]) hr hl ?_
    have hlex : ∀ r ∈ acc, lexL r m = true := fun r hr' => by
      have := (List.pairwise_append.mp hr).1
      exact (List.pairwise_append.mp this).2.2 r (h.sub r hr') m (List.mem_singleton.mpr rfl)
    have hla : ∀ r ∈ acc, r.length = n := fun r hr' => hl r (List.mem_append_left _ (List.mem_append_left _ (h.sub r hr')))
    unfold stepL
    by_cases ha : (acc.map fun o => divB o m).any id = true
    · rw [if_pos ha]
      refine ⟨h.ris, fun r hr' => List.mem_append_left _ (h.sub r hr'), fun s hs => ?_, h.anti⟩
      rcases List.mem_append.mp hs with hs | hs
      · exact h.cov s hs
      · rw [List.mem_singleton.mp hs]
        obtain ⟨b, hb, hb2⟩ := List.any_eq_true.mp ha
        obtain ⟨r, hr', rfl⟩ := List.mem_map.mp hb
        exact ⟨r, hr', hb2⟩
    · rw [if_neg ha]
      have hno : ∀ r ∈ acc, divB r m = false := fun r hr' => Bool.eq_false_iff.mpr fun z => ha (List.any_eq_true.mpr ⟨true, List.mem_map.mpr ⟨r, hr', z⟩, rfl⟩)
      refine ⟨List.pairwise_append.mpr ⟨h.ris, List.pairwise_singleton _ _, fun a ha b hb => by rw [List.mem_singleton.mp hb]; exact hlex a ha⟩, fun r hr' => ?_, fun s hs => ?_, fun r hr' r' hr'' hd => ?_⟩
      · rcases List.mem_append.mp hr' with z | z
        · exact List.mem_append_left _ (h.sub r z)
        · exact List.mem_append_right _ z
      · rcases List.mem_append.mp hs with hs | hs
        · obtain ⟨r, h1, h2⟩ := h.cov s hs
          exact ⟨r, List.mem_append_left _ h1, h2⟩
        · exact ⟨s, List.mem_append_right _ hs, divB_refl s⟩
      · rcases List.mem_append.mp hr' with z | z <;> rcases List.mem_append.mp hr'' with z' | z'
        · exact h.anti r z r' z' hd
        · rw [List.mem_singleton.mp z', hno r z] at hd
          cases hd
        · have zz := List.mem_singleton.mp z
          subst zz
          rcases divB_lex (hm.trans (hla r' z').symm) hd with k | k
          · exact k
          · have := lexL_tr k (hlex r' z')
            rw [lexL_irr] at this
            cases this
        · rw [List.mem_singleton.mp z, List.mem_singleton.mp z']
theorem mins_uniq {S R S' R' : List (List Int)} {n : Nat} (hS : ∀ s ∈ S, s.length = n) (hS' : ∀ s ∈ S', s.length = n) (h : Mins S R) (h' : Mins S' R') (c : ∀ s ∈ S, ∃ s' ∈ S', divB s' s = true) (c' : ∀ s ∈ S', ∃ s' ∈ S, divB s' s = true) : R = R' := by
  have key : ∀ {S R S' R' : List (List Int)}, (∀ s ∈ S, s.length = n) → (∀ s ∈ S', s.length = n) → Mins S R → Mins S' R' → (∀ s ∈ S, ∃ s' ∈ S', divB s' s = true) → (∀ s ∈ S', ∃ s' ∈ S, divB s' s = true) → ∀ r ∈ R, r ∈ R' := by
    intro S R S' R' hS hS' h h' c c' r hr
    obtain ⟨s', hs', d1⟩ := c r (h.sub r hr)
    obtain ⟨r', hr', d2⟩ := h'.cov s' hs'
    obtain ⟨s, hs, d3⟩ := c' r' (h'.sub r' hr')
    obtain ⟨q, hq, d4⟩ := h.cov s hs
    have lr := hS r (h.sub r hr)
    have ls' := hS' s' hs'
    have lr' := hS' r' (h'.sub r' hr')
    have ls := hS s hs
    have lq := hS q (h.sub q hq)
    have d5 : divB q r' = true := divB_trans lq ls lr' d4 d3
    have d6 : divB r' r = true := divB_trans lr' ls' lr d2 d1
    have e : q = r := h.anti q hq r hr (divB_trans lq lr' lr d5 d6)
    subst e
    rw [divB_anti lr lr' d5 d6]
    exact hr'
  exact ris_eq h.ris h'.ris fun x => ⟨key hS hS' h h' c c' x, key hS' hS h' h c' c x⟩
theorem fold_min {S : List (List Int)} {n : Nat} (hS : ∀ s ∈ S, s.length = n) : (sortU S).foldl stepL [] = minL S := by
  have hq : ∀ s ∈ sortU S, s.length = n := fun s hs => hS s (mem_sortU.mp hs)
  have h := mins_fold (n := n) (sortU S) [] [] (ris_sortU S) hq ⟨List.Pairwise.nil, (fun r hr => nomatch hr), (fun s hs => nomatch hs), (fun r hr => nomatch hr)⟩
  exact mins_uniq hq hS h (mins_minL hS) (fun s hs => ⟨s, mem_sortU.mp hs, divB_refl s⟩) fun s hs => ⟨s, mem_sortU.mpr hs, divB_refl s⟩
theorem min_cong {S S' : List (List Int)} {n : Nat} (hS : ∀ s ∈ S, s.length = n) (hS' : ∀ s ∈ S', s.length = n) (c : ∀ s ∈ S, ∃ s' ∈ S', divB s' s = true) (c' : ∀ s ∈ S', ∃ s' ∈ S, divB s' s = true) : minL S = minL S' := mins_uniq hS hS' (mins_minL hS) (mins_minL hS') c c'
theorem min_sub {S : List (List Int)} : ∀ r ∈ minL S, r ∈ S := fun r hr => mem_sortU.mp (List.mem_filter.mp hr).1
theorem min_idem {S : List (List Int)} {n : Nat} (hS : ∀ s ∈ S, s.length = n) : minL (minL S) = minL S :=
  min_cong (fun s hs => hS s (min_sub s hs)) hS (fun s hs => ⟨s, min_sub s hs, divB_refl s⟩) (mins_minL hS).cov
theorem min_len (S : List (List Int)) : (minL S).length ≤ S.length := Nat.le_trans (List.length_filter_le _ _) (sortU_len S)
def inL (L : List (List Int)) (c : List Int) : Bool := L.any fun g => divB g c
theorem inL_iff {L : List (List Int)} {c : List Int} : inL L c = true ↔ ∃ g ∈ L, divB g c = true := List.any_eq_true
theorem in_min {S : List (List Int)} {n : Nat} {c : List Int} (hS : ∀ s ∈ S, s.length = n) (hc : c.length = n) : inL (minL S) c = true ↔ ∃ g ∈ S, divB g c = true := by
  rw [inL_iff]
  constructor
  · rintro ⟨g, h1, h2⟩
    exact ⟨g, min_sub g h1, h2⟩
  · rintro ⟨g, h1, h2⟩
    obtain ⟨r, h3, h4⟩ := (mins_minL hS).cov g h1
    exact ⟨r, h3, divB_trans (hS r (min_sub r h3)) (hS g h1) hc h4 h2⟩
theorem tints_TI (ts : List (List Int)) : tints ((ts.map TI).map DV.d) = some ts := tints_map ts
theorem dv_TI (l : List (List Int)) : (l.map fun a => DV.d (.tuple (a.map .int))) = (l.map TI).map DV.d := by
  rw [List.map_map]
  rfl
theorem tis_dv (l : List (List Int)) : (l.map fun a => DV.d (TI a)) = (l.map TI).map DV.d := dv_TI l
theorem tis_dv0 (l : List (List Int)) : [] ++ (l.map fun a => DV.d (TI a)) = (l.map TI).map DV.d := dv_TI l
theorem comp2_T {α : Type} (h : α → DV) (F : α → List DV) (M : Nat) {inv : Sto → Prop} {g g1 : TDg} {tt tt1 : TDt} {ti1 : TDi} {te : TD} {vs1 : List Nat} {ε : DL.Env} {Kc : List DV → Sto → Prop} {st : Sto} (hi : inv st) : ∀ (l : List α) (acc : List DV),
    (∀ a ∈ l, ∀ (acc : List DV) (Kc : List DV → Sto → Prop), acc.length ≤ M → Kc (acc ++ F a) st → g (h a) ε st fun ε1 s1 => tt ε1 s1 fun b s2 => if b = true then ti1 ε1 s2 fun items1 inv1 s3 => acc.length + items1.length ≤ sizeLine ∧ qComp inv1 g1 tt1 te (wipeD ε1 vs1) Kc items1 acc s3 else Kc acc s2) →
    (acc ++ l.flatMap F).length ≤ M → Kc (acc ++ l.flatMap F) st → qCompO inv g tt ti1 g1 tt1 te vs1 ε Kc (l.map h) acc st
  | [], acc, _, _, k => ⟨hi, by simpa using k⟩
  | x :: xs, acc, hx, hM, k => by
    have e : acc ++ (x :: xs).flatMap F = (acc ++ F x) ++ xs.flatMap F := by rw [List.flatMap_cons, List.append_assoc]
    rw [e] at hM k
    refine ⟨hi, hx x List.mem_cons_self acc (fun acc' s4 => qCompO inv g tt ti1 g1 tt1 te vs1 ε Kc (xs.map h) acc' s4) ?_ ?_⟩
    · simp only [List.length_append] at hM
      omega
    · exact comp2_T h F M hi xs (acc ++ F x) (fun y hy => hx y (List.mem_cons_of_mem _ hy)) hM k
theorem atI_0 {α : Type} (x : α) (l : List α) : atI (x :: l) 0 = some x := atI_nat (j := 0) rfl
theorem atI_1 {α : Type} (x y : α) (l : List α) : atI (x :: y :: l) 1 = some y := atI_nat (j := 1) rfl
theorem atI_2 {α : Type} (x y z : α) (l : List α) : atI (x :: y :: z :: l) 2 = some z := atI_nat (j := 2) rfl
theorem mk_app (a b : List PyData) : mkT (a.map .d ++ b.map .d) = .d (.tuple (a ++ b)) := by
  rw [← List.map_append, mkT_map]
theorem mk_appT (a b : List (List Int)) : mkT ((a.map TI).map .d ++ (b.map TI).map .d) = .d (TT (a ++ b)) := by
  rw [mk_app, ← List.map_append]
theorem mk_snocI (a : List Int) (k : Int) : mkT ((a.map PyData.int).map .d ++ [.d (.int k)]) = .d (TI (a ++ [k])) := by
  have := mk_app (a.map .int) [.int k]
  rw [show TI (a ++ [k]) = .tuple (a.map .int ++ [.int k]) by simp [TI], ← this]
  rfl
@[reducible] def idl (n : Nat) (l : List (List Int)) : PyData := .tuple [.int n, TT l]
theorem size_of {n m : Nat} (h : n ≤ m) (hm : m ≤ 100000) : n ≤ sizeLine := by rw [sizeL]; omega
theorem sitems_le {st st' : Sto} {x : DV} {l : List DV} (h : sitems st x = some l) (hl : Le st st') : sitems st' x = some l := by
  cases x with
  | d z => cases z <;> exact h
  | t ys => exact h
  | r a =>
    simp only [sitems, titems, litems] at h ⊢
    cases e : st a with
    | none => rw [e] at h; cases h
    | some m => rw [hl a m e]; rw [e] at h; exact h
theorem le_up {st st' : Sto} {p : Addr} (h0 : st p = none) (h : ∀ b, b ≠ p → st' b = st b) : Le st st' := fun a m e => by
  rw [h a (fun z => by rw [z, h0] at e; cases e)]
  exact e
theorem le_up1 {st : Sto} {p : Addr} {m : MO} (h0 : st p = none) : Le st (up st p m) := le_up h0 fun b hb => up_ne hb
theorem src_of {st : Sto} {x : DV} {l : List DV} (h : sitems st x = some l) : ∃ inv : Sto → Prop, seqSrc st x = some (l, inv) ∧ ∀ s', Le st s' → inv s' := by
  cases x with
  | d z =>
    cases z with
    | tuple ds => cases h; exact ⟨_, rfl, fun _ _ => trivial⟩
    | list ds => cases h; exact ⟨_, rfl, fun _ _ => trivial⟩
    | _ => cases h
  | t ys => cases h; exact ⟨_, rfl, fun _ _ => trivial⟩
  | r a =>
    simp only [sitems, titems, litems] at h
    cases e : st a with
    | none => rw [e] at h; cases h
    | some m =>
      rw [e] at h
      cases m with
      | lst xs => cases h; exact ⟨_, by simp only [seqSrc, titems, lsrc, e], fun s' hl => hl a _ e⟩
      | _ => cases h
theorem src_of2 {st : Sto} {x : DV} {l : List DV} (h : sitems st x = some l) : ∃ inv : Sto → Prop, seqSrc st x = some (l, inv) ∧ ∀ s', sitems s' x = some l → inv s' := by
  cases x with
  | d z =>
    cases z with
    | tuple ds => cases h; exact ⟨_, rfl, fun _ _ => trivial⟩
    | list ds => cases h; exact ⟨_, rfl, fun _ _ => trivial⟩
    | _ => cases h
  | t ys => cases h; exact ⟨_, rfl, fun _ _ => trivial⟩
  | r a =>
    have key : ∀ s', sitems s' (.r a) = some l → s' a = some (.lst l) := fun s' h => by
      simp only [sitems, titems, litems] at h
      cases e : s' a with
      | none => rw [e] at h; cases h
      | some m =>
        rw [e] at h
        cases m with
        | lst xs => cases h; rfl
        | _ => cases h
    exact ⟨fun s' => s' a = some (.lst l), by simp only [seqSrc, titems, lsrc, key st h], key⟩
theorem fg_le {Q : DV → Sto → Prop} {x : DV} {st st' : Sto} (hl : Le st st') (h : Q x st) : Fg Q x st' := ⟨st, hl, h⟩
/-! boxes -/
def boxL (tops : List Int) : List (List Int) := tops.foldl (fun F t => F.flatMap fun a => (List.range (t + 1).toNat).map fun (k : Nat) => a ++ [(k : Int)]) [[]]
theorem gd_app_l {a b : List Int} {j : Nat} (h : j < a.length) : gd (a ++ b) j = gd a j := by
  unfold gd
  rw [List.getD_eq_getElem?_getD, List.getD_eq_getElem?_getD, List.getElem?_append_left h]
theorem gd_app_one {a : List Int} {x : Int} : gd (a ++ [x]) a.length = x := by
  unfold gd
  rw [List.getD_eq_getElem?_getD, List.getElem?_append_right (Nat.le_refl _), Nat.sub_self]
  rfl
theorem mem_boxL {tops c : List Int} : c ∈ boxL tops ↔ c.length = tops.length ∧ ∀ j < tops.length, 0 ≤ gd c j ∧ gd c j ≤ gd tops j := by
  unfold boxL
  have key : ∀ (ts pre : List Int) (F : List (List Int)), (∀ c, c ∈ F ↔ c.length = pre.length ∧ ∀ j < pre.length, 0 ≤ gd c j ∧ gd c j ≤ gd pre j) →
      ∀ c, c ∈ ts.foldl (fun F t => F.flatMap fun a => (List.range (t + 1).toNat).map fun (k : Nat) => a ++ [(k : Int)]) F ↔ c.length = (pre ++ ts).length ∧ ∀ j < (pre ++ ts).length, 0 ≤ gd c j ∧ gd c j ≤ gd (pre ++ ts) j := by
    intro ts
    induction ts with
    | nil => intro pre F h c; rw [List.append_nil]; exact h c
    | cons t ts ih =>
      intro pre F h c
      have e : pre ++ t :: ts = (pre ++ [t]) ++ ts := by simp
      rw [e, List.foldl_cons]
      refine ih (pre ++ [t]) _ (fun d => ?_) c
      rw [List.mem_flatMap]
      constructor
      · rintro ⟨a, ha, hd⟩
        obtain ⟨k, hk, rfl⟩ := List.mem_map.mp hd
        rw [List.mem_range] at hk
        obtain ⟨h1, h2⟩ := (h a).mp ha
        refine ⟨by simp [h1], fun j hj => ?_⟩
        by_cases z : j < pre.length
        · rw [gd_app_l (by omega), gd_app_l z]
          exact h2 j z
        · have : j = pre.length := by simp at hj; omega
          subst this
          rw [gd_app_one, ← h1, gd_app_one]
          omega
      · rintro ⟨h1, h2⟩
        rw [List.length_append, List.length_singleton] at h1 h2
        have hd : d = d.take pre.length ++ [gd d pre.length] := by
          refine List.ext_getElem? fun i => ?_
          by_cases z : i < pre.length
          · rw [List.getElem?_append_left (by simp; omega), List.getElem?_take_of_lt z]
          · by_cases y : i = pre.length
            · subst y
              rw [List.getElem?_append_right (by rw [List.length_take]; omega), List.length_take, Nat.min_eq_left (by omega), Nat.sub_self, List.getElem?_eq_getElem (by omega), gd_eq (by omega)]
              rfl
            · rw [List.getElem?_eq_none (by omega), List.getElem?_eq_none (by simp; omega)]
        refine ⟨d.take pre.length, (h _).mpr ⟨by simp; omega, fun j hj => ?_⟩, ?_⟩
        · have := h2 j (by omega)
          rw [gd_app_l hj] at this
          have e3 : gd (d.take pre.length) j = gd d j := by
            unfold gd
            rw [List.getD_eq_getElem?_getD, List.getD_eq_getElem?_getD, List.getElem?_take_of_lt hj]
          rw [e3]
          exact this
        · have := h2 pre.length (by omega)
          rw [gd_app_one] at this
          refine List.mem_map.mpr ⟨(gd d pre.length).toNat, List.mem_range.mpr (by omega), ?_⟩
          rw [show (((gd d pre.length).toNat : Nat) : Int) = gd d pre.length by omega]
          exact hd.symm
  have := key tops [] [[]] (fun c => by simp) c
  simpa using this
theorem box_len : ∀ (tops : List Int) (w : Nat), (∀ t ∈ tops, (t + 1).toNat ≤ w) → (boxL tops).length ≤ w ^ tops.length := by
  intro tops w h
  unfold boxL
  have key : ∀ (ts : List Int) (F : List (List Int)) (k : Nat), (∀ t ∈ ts, (t + 1).toNat ≤ w) → F.length ≤ w ^ k → (ts.foldl (fun F t => F.flatMap fun a => (List.range (t + 1).toNat).map fun (k : Nat) => a ++ [(k : Int)]) F).length ≤ w ^ (k + ts.length) := by
    intro ts
    induction ts with
    | nil => intro F k _ hF; exact hF
    | cons t ts ih =>
      intro F k ht hF
      rw [List.foldl_cons, List.length_cons, show k + (ts.length + 1) = (k + 1) + ts.length by omega]
      refine ih _ (k + 1) (fun x hx => ht x (List.mem_cons_of_mem _ hx)) ?_
      have : ∀ F : List (List Int), (F.flatMap fun a => (List.range (t + 1).toNat).map fun (k : Nat) => a ++ [(k : Int)]).length = F.length * (t + 1).toNat := by
        intro F
        induction F with
        | nil => simp
        | cons a F ih => rw [List.flatMap_cons, List.length_append, ih, List.length_map, List.length_range, List.length_cons, Nat.succ_mul, Nat.add_comm]
      rw [this, Nat.pow_succ]
      exact Nat.mul_le_mul hF (ht t List.mem_cons_self)
  have := key tops [[]] 0 h (by simp)
  simpa using this
end UC
end

section
set_option linter.all false
set_option maxRecDepth 100000
set_option maxHeartbeats 1000000
open PySem L2 DL
local macro_rules | `(tactic| walk_at "E") => `(tactic| (try simp only [qAsg, qRet, qDrop, qIfS, qTest, qAndT, qOrT, qNotT, qAndV, qOrV, qNotV, qIf, qOp, qUn, qChain, onB, qv, qc, qgN, qgT, qgCons, qgNil, qCons, qNil, qTup, qLst, qPar, qPar3, qAug, qCB, qCall, qLen, qTupleC, qListC, qMax2, qMin2, qIntC, qSum, qAny, qAll, qIsi, tyName, qAdd, qSub, qMul, qFdiv, qMod, qPow, qI2, qCmpI, qEq, qNe, qLt, qLe, qGt, qGe, qNeg, qIx, qDGet, qDIn, qDPut, qSl, qPart, qNoPart, qNext, qFor, qiSeq, qiRng1, qiRng2, qiZip, qiEnum, qLc, seqSrc, lsrc, titems, litems, sitems, fz, newL, List.getElem?_cons_zero, List.getElem?_cons_succ, List.set_cons_zero, List.set_cons_succ, if_true, if_false, Bool.false_eq_true, ite_true, ite_false, up_same, reduceIte, decide_true, decide_false, true_and, and_true]))
namespace UC
open PySem L2 DL RD
/-! monomials -/
def suppL (a : List Int) : List Int := (a.zipIdx.filter fun p => decide (0 < p.1)).map fun p => (p.2 : Int)
def sp_degree_of : SpD := fun xs st Q => ∃ a : List Int, xs = [.d (TI a)] ∧ Q (I a.sum) st
def sp_support_of : SpD := fun xs st Q => ∃ a : List Int, xs = [.d (TI a)] ∧ a.length ≤ 1000 ∧ Q (.d (TI (suppL a))) st
def sp_divides : SpD := fun xs st Q => ∃ a b : List Int, xs = [.d (TI a), .d (TI b)] ∧ Q (Bo (divB a b)) st
def spZ (f : List Int → List Int → List Int) : SpD := fun xs st Q => ∃ a b : List Int, xs = [.d (TI a), .d (TI b)] ∧ a.length ≤ 1000 ∧ Q (.d (TI (f a b))) st
abbrev sp_lcm_of : SpD := spZ lcmL
abbrev sp_gcd_of : SpD := spZ gcdL
abbrev sp_times : SpD := spZ mulL
abbrev sp_cut : SpD := spZ cutL
theorem len_degree_of : ∀ xs st Q, sp_degree_of xs st Q → xs.length = 1 := by rintro xs st Q ⟨a, rfl, _⟩; rfl
theorem len_support_of : ∀ xs st Q, sp_support_of xs st Q → xs.length = 1 := by rintro xs st Q ⟨a, rfl, _⟩; rfl
theorem len_divides : ∀ xs st Q, sp_divides xs st Q → xs.length = 2 := by rintro xs st Q ⟨a, b, rfl, _⟩; rfl
theorem lenZ {f : List Int → List Int → List Int} : ∀ xs st Q, spZ f xs st Q → xs.length = 2 := by rintro xs st Q ⟨a, b, rfl, _⟩; rfl
theorem len_lcm_of : ∀ xs st Q, sp_lcm_of xs st Q → xs.length = 2 := lenZ
theorem len_gcd_of : ∀ xs st Q, sp_gcd_of xs st Q → xs.length = 2 := lenZ
theorem len_times : ∀ xs st Q, sp_times xs st Q → xs.length = 2 := lenZ
theorem len_cut : ∀ xs st Q, sp_cut xs st Q → xs.length = 2 := lenZ
theorem sem_degree_of : ∀ xs st Q, sp_degree_of xs st Q → rd_degree_of { nx := fun _ st' => Fg Q (.d .none) st', rt := Fg Q } (startD 1 xs) st := by
  rintro xs st Q ⟨a, rfl, K⟩
  have e0 : startD 1 [.d (TI a)] = [some (.d (TI a))] := rfl
  rw [e0]
  unfold rd_degree_of
  walk_at "E"
  simp only [dints_map2]
  exact fg_ret K
/-- the items of a zip of two monomials -/
theorem zipD_ints : ∀ a b : List Int, zipD ((a.map PyData.int).map DV.d) ((b.map PyData.int).map DV.d) = (a.zip b).map fun p => DV.d (.tuple [.int p.1, .int p.2])
  | [], _ => rfl
  | _ :: _, [] => rfl
  | x :: a, y :: b => by
    have ih := zipD_ints a b
    unfold zipD at ih ⊢
    rw [List.map_cons, List.map_cons, List.map_cons, List.map_cons, List.zipWith_cons_cons, ih, List.zip_cons_cons, List.map_cons]
    rfl
theorem semZ_of {f : List Int → List Int → List Int} {fe : Int → Int → Int} {te : TD} (hf : f = List.zipWith fe)
    (he : ∀ (a b : DV) (x y : Int) (st : Sto) (Q : DV → Sto → Prop), Q (I (fe x y)) st → te [some a, some b, some (I x), some (I y)] st Q) :
    ∀ xs st Q, spZ f xs st Q → (qRet (qCB qTupleC (qCons (qLc false (qiZip (qCons (qv 0) (qCons (qv 1) qNil))) (qgT 2 (qgCons (qgN 2) (qgCons (qgN 3) qgNil))) qYes te [2, 3]) qNil))) { nx := fun _ st' => Fg Q (.d .none) st', rt := Fg Q } (startD 4 xs) st := by
  rintro xs st Q ⟨a, b, rfl, hl, K⟩
  have e0 : startD 4 [.d (TI a), .d (TI b)] = [some (.d (TI a)), some (.d (TI b)), none, none] := rfl
  rw [e0]
  walk_at "E"
  rw [zipD_ints]
  refine ⟨by rw [List.length_map, List.length_zip, sizeL]; omega, ?_⟩
  refine comp_mapT _ (fun p => I (fe p.1 p.2)) trivial _ _ ?_ ?_
  · intro p hp Q1 h
    simp only [wipeD]
    walk_at "E"
    simp only [List.map_cons, List.map_nil, List.length_cons, List.length_nil]
    walk_at "E"
    exact he _ _ _ _ _ _ h
  · have e1 : [] ++ ((a.zip b).map fun p => I (fe p.1 p.2)) = ((f a b).map PyData.int).map DV.d := by
      rw [hf, List.nil_append, ← List.map_uncurry_zip_eq_zipWith, List.map_map, List.map_map]
      rfl
    rw [e1]
    simp only [datas_map]
    walk_at "E"
    rw [mkT_map]
    exact fg_ret K
theorem sem_lcm_of : ∀ xs st Q, sp_lcm_of xs st Q → rd_lcm_of { nx := fun _ st' => Fg Q (.d .none) st', rt := Fg Q } (startD 4 xs) st :=
  semZ_of (fe := max) rfl fun a b x y st Q h => by
    walk_at "E"
    rw [show (if y > x then y else x) = max x y by rw [Int.max_def]; split <;> split <;> omega]
    exact h
theorem sem_gcd_of : ∀ xs st Q, sp_gcd_of xs st Q → rd_gcd_of { nx := fun _ st' => Fg Q (.d .none) st', rt := Fg Q } (startD 4 xs) st :=
  semZ_of (fe := min) rfl fun a b x y st Q h => by
    walk_at "E"
    rw [show (if y < x then y else x) = min x y by rw [Int.min_def]; split <;> split <;> omega]
    exact h
theorem sem_times : ∀ xs st Q, sp_times xs st Q → rd_times { nx := fun _ st' => Fg Q (.d .none) st', rt := Fg Q } (startD 4 xs) st :=
  semZ_of (fe := (· + ·)) rfl fun a b x y st Q h => by
    walk_at "E"
    exact h
theorem sem_cut : ∀ xs st Q, sp_cut xs st Q → rd_cut { nx := fun _ st' => Fg Q (.d .none) st', rt := Fg Q } (startD 4 xs) st :=
  semZ_of (fe := fun x y => max (x - y) 0) rfl fun a b x y st Q h => by
    walk_at "E"
    rw [show (if 0 > x - y then 0 else x - y) = max (x - y) 0 by rw [Int.max_def]; split <;> split <;> omega]
    exact h
theorem enumD_ints (f : Int → PyData) : ∀ (a : List Int), enumD ((a.map f).map DV.d) = a.zipIdx.map fun p => DV.d (.tuple [.int p.2, f p.1]) := by
  intro a
  unfold enumD
  rw [List.map_map, List.mapIdx_eq_zipIdx_map, List.zipIdx_map, List.map_map]
  rfl
theorem sem_support_of : ∀ xs st Q, sp_support_of xs st Q → rd_support_of { nx := fun _ st' => Fg Q (.d .none) st', rt := Fg Q } (startD 3 xs) st := by
  rintro xs st Q ⟨a, rfl, hl, K⟩
  have e0 : startD 3 [.d (TI a)] = [some (.d (TI a)), none, none] := rfl
  rw [e0]
  unfold rd_support_of
  walk_at "E"
  rw [enumD_ints]
  refine ⟨by rw [List.length_map, List.length_zipIdx, sizeL]; omega, ?_⟩
  refine comp_fmT _ (fun p : Int × Nat => decide (0 < p.1)) (fun p => I (p.2 : Int)) trivial _ _ ?_ ?_
  · intro p hp Q1 Q2 h
    simp only [wipeD]
    walk_at "E"
    simp only [List.map_cons, List.map_nil, List.length_cons, List.length_nil]
    walk_at "E"
    by_cases h0 : 0 < p.1
    · simp only [h0, decide_true, if_true] at h ⊢
      walk_at "E"
      exact h
    · simp only [h0, decide_false] at h ⊢
      exact h
  · have e1 : [] ++ ((a.zipIdx.filter fun p => decide (0 < p.1)).map fun p => I (p.2 : Int)) = ((suppL a).map PyData.int).map DV.d := by
      unfold suppL
      rw [List.nil_append, List.map_map, List.map_map]
      rfl
    rw [e1]
    simp only [datas_map]
    walk_at "E"
    rw [mkT_map]
    exact fg_ret K
theorem sem_divides : ∀ xs st Q, sp_divides xs st Q → rd_divides { nx := fun _ st' => Fg Q (.d .none) st', rt := Fg Q } (startD 4 xs) st := by
  rintro xs st Q ⟨a, b, rfl, K⟩
  have e0 : startD 4 [.d (TI a), .d (TI b)] = [some (.d (TI a)), some (.d (TI b)), none, none] := rfl
  rw [e0]
  unfold rd_divides
  refine seq fun N hN => ?_
  walk_at "E"
  rw [zipD_ints]
  refine for_byT _ (fun i ε s => s = st ∧ (((a.zip b).take i).all fun p => decide (p.1 ≤ p.2)) = true ∧ ∃ x y, ε = [some (.d (TI a)), some (.d (TI b)), x, y]) ⟨rfl, rfl, _, _, rfl⟩ (fun _ _ _ _ => trivial) ?_ ?_
  · rintro i p ε s hp ⟨rfl, ha, x, y, rfl⟩ L hL
    walk_at "E"
    simp only [List.map_cons, List.map_nil, List.length_cons, List.length_nil]
    walk_at "E"
    by_cases h : p.2 < p.1
    · simp only [h, decide_true, if_true]
      refine fg_ret ?_
      have e : divB a b = false := by
        unfold divB
        rw [List.all_eq_false]
        exact ⟨p, List.mem_of_getElem? hp, by simp; omega⟩
      rw [e] at K
      exact K
    · simp only [h, decide_false]
      walk_at "E"
      refine hL _ _ ⟨rfl, ?_, _, _, rfl⟩
      rw [List.take_succ, hp, List.all_append, ha]
      simp
      omega
  · rintro ε s ⟨rfl, ha, x, y, rfl⟩
    refine hN _ _ ?_
    walk_at "E"
    refine fg_ret ?_
    rw [List.take_length] at ha
    have e : divB a b = true := ha
    rw [e] at K
    exact K
/-! the plain laws -/
theorem div_lcm {a b : List Int} {n : Nat} (ha : a.length = n) (hb : b.length = n) : divB a b = decide (lcmL a b = b) := bool_dec <| by
  rw [divB_iff ha hb]
  unfold lcmL
  rw [gd_ext (len_zw ha hb) hb]
  refine forall_congr' fun j => forall_congr' fun hj => ?_
  rw [gd_zw ha hb hj]
  omega
theorem div_gcd {a b : List Int} {n : Nat} (ha : a.length = n) (hb : b.length = n) : divB a b = decide (gcdL a b = a) := bool_dec <| by
  rw [divB_iff ha hb]
  unfold gcdL
  rw [gd_ext (len_zw ha hb) ha]
  refine forall_congr' fun j => forall_congr' fun hj => ?_
  rw [gd_zw ha hb hj]
  omega
theorem div_cut {a b : List Int} {n : Nat} (ha : a.length = n) (hb : b.length = n) : divB a b = decide (cutL a b = List.replicate n 0) := bool_dec <| by
  rw [divB_iff ha hb]
  unfold cutL
  rw [gd_ext (len_zw ha hb) (List.length_replicate ..)]
  refine forall_congr' fun j => forall_congr' fun hj => ?_
  rw [gd_zw ha hb hj, gd_rep hj]
  omega
theorem div_none {a b : List Int} {n : Nat} (ha : a.length = n) (hb : b.length = n) : divB a b = decide ((List.range n).filter (fun j => decide (gd b j < gd a j)) = []) := bool_dec <| by
  rw [divB_iff ha hb, filter_nil]
  constructor
  · intro h j hj
    exact decide_eq_false (by have := h j (List.mem_range.mp hj); omega)
  · intro h j hj
    have := of_decide_eq_false (h j (List.mem_range.mpr hj))
    omega
theorem supp_range {a : List Int} {n : Nat} (ha : a.length = n) (h0 : ∀ x ∈ a, 0 ≤ x) : suppL a = ((List.range n).filter fun j => decide (gd a j ≠ 0)).map fun (j : Nat) => (j : Int) := by
  unfold suppL
  rw [zipIdx_range, List.filter_map, List.map_map, ha]
  have e : List.filter ((fun p : Int × Nat => decide (0 < p.1)) ∘ fun j => (gd a j, j)) (List.range n) = List.filter (fun j => decide (gd a j ≠ 0)) (List.range n) := by
    refine List.filter_congr fun j hj => ?_
    rw [List.mem_range] at hj
    have := h0 _ (gd_mem (a := a) (j := j) (by omega))
    simp only [Function.comp, decide_eq_decide]
    omega
  rw [e]
  rfl
theorem mul_cut_gcd {a b : List Int} {n : Nat} (ha : a.length = n) (hb : b.length = n) : mulL (cutL a b) (gcdL a b) = a := by
  unfold mulL cutL gcdL
  rw [gd_ext (len_zw (len_zw ha hb) (len_zw ha hb)) ha]
  intro j hj
  rw [gd_zw (len_zw ha hb) (len_zw ha hb) hj, gd_zw ha hb hj, gd_zw ha hb hj]
  omega
theorem mul_lcm_gcd {a b : List Int} {n : Nat} (ha : a.length = n) (hb : b.length = n) : mulL (lcmL a b) (gcdL a b) = mulL a b := by
  unfold mulL lcmL gcdL
  rw [gd_ext (len_zw (len_zw ha hb) (len_zw ha hb)) (len_zw ha hb)]
  intro j hj
  rw [gd_zw (len_zw ha hb) (len_zw ha hb) hj, gd_zw ha hb hj, gd_zw ha hb hj, gd_zw ha hb hj]
  omega
theorem lcm_comm {a b : List Int} {n : Nat} (ha : a.length = n) (hb : b.length = n) : lcmL a b = lcmL b a := by
  unfold lcmL
  rw [gd_ext (len_zw ha hb) (len_zw hb ha)]
  intro j hj
  rw [gd_zw ha hb hj, gd_zw hb ha hj]
  omega
theorem gcd_comm {a b : List Int} {n : Nat} (ha : a.length = n) (hb : b.length = n) : gcdL a b = gcdL b a := by
  unfold gcdL
  rw [gd_ext (len_zw ha hb) (len_zw hb ha)]
  intro j hj
  rw [gd_zw ha hb hj, gd_zw hb ha hj]
  omega
end UC
end

section
set_option linter.all false
set_option maxRecDepth 100000
set_option maxHeartbeats 1000000
open PySem L2 DL RD UC
local macro_rules | `(tactic| walk_at "E") => `(tactic| (try simp only [qAsg, qRet, qDrop, qIfS, qTest, qAndT, qOrT, qNotT, qAndV, qOrV, qNotV, qIf, qOp, qUn, qChain, onB, qv, qc, qgN, qgT, qgCons, qgNil, qCons, qNil, qTup, qLst, qPar, qPar3, qAug, qCB, qCall, qLen, qTupleC, qListC, qMax2, qMin2, qIntC, qSum, qAny, qAll, qIsi, tyName, qAdd, qSub, qMul, qFdiv, qMod, qPow, qI2, qCmpI, qEq, qNe, qLt, qLe, qGt, qGe, qNeg, qIx, qDGet, qDIn, qDPut, qSl, qPart, qNoPart, qNext, qFor, qiSeq, qiRng1, qiRng2, qiZip, qiEnum, qLc, seqSrc, lsrc, titems, litems, sitems, fz, newL, List.getElem?_cons_zero, List.getElem?_cons_succ, List.set_cons_zero, List.set_cons_succ, if_true, if_false, Bool.false_eq_true, ite_true, ite_false, up_same, reduceIte, decide_true, decide_false, true_and, and_true]))
local macro_rules | `(tactic| walk_at "D") => `(tactic| (try simp only [qAsg, qRet, qDrop, qIfS, qTest, qAndT, qOrT, qNotT, qAndV, qOrV, qNotV, qIf, qOp, qUn, qChain, onB, qv, qc, qgN, qgT, qgCons, qgNil, qCons, qNil, qTup, qLst, qPar, qPar3, qAug, qCB, qCall, qLen, qTupleC, qListC, qMax2, qMin2, qIntC, qSum, qAny, qAll, qIsi, tyName, qAdd, qSub, qMul, qFdiv, qMod, qPow, qI2, qCmpI, qEq, qNe, qLt, qLe, qGt, qGe, qNeg, qIx, qDGet, qDIn, qDPut, qSl, qPart, qNoPart, qNext, qFor, qiSeq, qiRng1, qiRng2, qiZip, qiEnum, qLc, seqSrc, lsrc, titems, litems, sitems, fz, newL, List.getElem?_cons_zero, List.getElem?_cons_succ, List.set_cons_zero, List.set_cons_succ, if_true, if_false, Bool.false_eq_true, ite_true, ite_false, up_same, reduceIte, decide_true, decide_false, true_and, and_true, eqv_int, eqv_bool, eqv_TI, eqv_LI, eqv_TT, eqv_LT, eqv_nilL, eqv_nilT, shaped_TI, shaped_LI, shaped_TT, shaped_LT, shaped_int, shaped_bool, shaped_nilL, shaped_nilT, dints_map2, dbools_map2, datas_map, mkT_map, mkT_0, mkT_1, mkT_2, mkT_3, List.length_map, List.length_cons, List.length_nil, List.length_append, List.map_cons, List.map_nil, wipeD, Bool.not_true, Bool.not_false, eq_self, not_true_eq_false, not_false_eq_true, kitB_tt, kitB_ll, kitB_dd, kitB_bb, kitB_ib, kitB_ii, kitB_ss, kitB_tl, kitB_lt, Function.comp, datas, Option.map_some, List.cons_append, List.nil_append, CPow, le_size4, Int.toNat_natCast, rngD0, I_eq, Bo_eq, BS.qSortB, in_IT, in_IL, in_TT, in_TL, qNotN, qIsN, qSortD, qListRg, qDispT, keyX_TI, qLc2, qMax1, qMin1, qAppend, qExtend, tints_TI, dv_TI, Option.bind_some, qRetN, atI_0, atI_1, atI_2, mk_appT, mk_snocI, idl, rep_I, Option.map_none, qComb, qGcd]))
local macro_rules | `(tactic| walk_at "F") => `(tactic| (try simp only [qAsg, qRet, qDrop, qIfS, qTest, qAndT, qOrT, qNotT, qAndV, qOrV, qNotV, qIf, qOp, qUn, qChain, onB, qv, qc, qgN, qgT, qgCons, qgNil, qCons, qNil, qTup, qLst, qPar, qPar3, qAug, qCB, qCall, qLen, qTupleC, qListC, qMax2, qMin2, qIntC, qSum, qAny, qAll, qIsi, tyName, qAdd, qSub, qMul, qFdiv, qMod, qPow, qI2, qCmpI, qEq, qNe, qLt, qLe, qGt, qGe, qNeg, qIx, qDGet, qDIn, qDPut, qSl, qPart, qNoPart, qNext, qFor, qiRng1, qiRng2, qiZip, qiEnum, qLc, fz, newL, List.getElem?_cons_zero, List.getElem?_cons_succ, List.set_cons_zero, List.set_cons_succ, if_true, if_false, Bool.false_eq_true, ite_true, ite_false, up_same, reduceIte, decide_true, decide_false, true_and, and_true, eqv_int, eqv_bool, eqv_TI, eqv_LI, eqv_TT, eqv_LT, eqv_nilL, eqv_nilT, shaped_TI, shaped_LI, shaped_TT, shaped_LT, shaped_int, shaped_bool, shaped_nilL, shaped_nilT, dints_map2, dbools_map2, datas_map, mkT_map, mkT_0, mkT_1, mkT_2, mkT_3, List.length_map, List.length_cons, List.length_nil, List.length_append, List.map_cons, List.map_nil, wipeD, Bool.not_true, Bool.not_false, eq_self, not_true_eq_false, not_false_eq_true, kitB_tt, kitB_ll, kitB_dd, kitB_bb, kitB_ib, kitB_ii, kitB_ss, kitB_tl, kitB_lt, Function.comp, datas, Option.map_some, List.cons_append, List.nil_append, CPow, le_size4, Int.toNat_natCast, rngD0, I_eq, Bo_eq, BS.qSortB, in_IT, in_IL, in_TT, in_TL, qNotN, qIsN, qSortD, qListRg, qDispT, keyX_TI, qLc2, qMax1, qMin1, qAppend, qExtend, tints_TI, dv_TI, Option.bind_some, qRetN, atI_0, atI_1, atI_2, mk_appT, mk_snocI, idl, rep_I, Option.map_none, qComb, qGcd]))
namespace UC
open PySem L2 DL RD
/-- what may be sorted as a set -/
def OkS (n : Nat) (w : Int) (ts : List (List Int)) : Prop := 1 ≤ n ∧ n ≤ 1000 ∧ ts.length < 4000 ∧ ∀ t ∈ ts, Mon n w t
theorem OkS.q {n : Nat} {w : Int} {ts : List (List Int)} (h : OkS n w ts) : ts.length < 4000 ∧ ∀ t ∈ ts, t ≠ [] := ⟨h.2.2.1, fun t ht e => by
  have h1 := (h.2.2.2 t ht).1
  have h2 := h.1
  rw [e] at h1
  simp at h1
  omega⟩
theorem OkS.len {n : Nat} {w : Int} {ts : List (List Int)} (h : OkS n w ts) : ∀ t ∈ ts, t.length = n := fun t ht => (h.2.2.2 t ht).1
def sp_law_divides : SpD := fun xs st Q => ∃ (a b : List Int) (n : Nat), xs = [.d (TI a), .d (TI b)] ∧ a.length = n ∧ b.length = n ∧ n ≤ 1000 ∧ Q (Bo (divB a b)) st
theorem len_law_divides : ∀ xs st Q, sp_law_divides xs st Q → xs.length = 2 := by rintro xs st Q ⟨a, b, n, rfl, _⟩; rfl
theorem sem_law_divides : ∀ xs st Q, sp_law_divides xs st Q → rd_law_divides { nx := fun _ st' => Fg Q (.d .none) st', rt := Fg Q } (startD 3 xs) st := by
  rintro xs st Q ⟨a, b, n, rfl, ha, hb, hn, K⟩
  have e0 : startD 3 [.d (TI a), .d (TI b)] = [some (.d (TI a)), some (.d (TI b)), none] := rfl
  rw [e0]
  unfold rd_law_divides
  walk_at "D"
  rw [ha]
  refine ⟨by omega, by omega, by rw [List.length_range, sizeL]; omega, ?_⟩
  refine comp_fmT _ (fun j => decide (gd b j < gd a j)) (fun (j : Nat) => I (j : Int)) trivial _ _ ?_ ?_
  · intro j hj Q1 Q2 h
    rw [List.mem_range] at hj
    walk_at "D"
    simp only [atI_gd (show j < a.length by omega), atI_gd (show j < b.length by omega)]
    walk_at "D"
    exact h
  · rw [ints_dv0]
    walk_at "D"
    simp only [List.map_eq_nil_iff]
    rw [← div_none ha hb]
    refine ⟨by decide, fg_ret K⟩
def sp_law_least : SpD := fun xs st Q => ∃ (x : DV) (ts : List (List Int)) (n : Nat) (w : Int), xs = [x] ∧ sitems st x = some ((ts.map TI).map .d) ∧ OkS n w ts ∧ Q (.d (TT (minL ts))) st
theorem len_law_least : ∀ xs st Q, sp_law_least xs st Q → xs.length = 1 := by rintro xs st Q ⟨a, ts, n, w, rfl, _⟩; rfl
theorem sem_law_least : ∀ xs st Q, sp_law_least xs st Q → rd_law_least sp_law_divides { nx := fun _ st' => Fg Q (.d .none) st', rt := Fg Q } (startD 4 xs) st := by
  rintro xs st Q ⟨x, ts, n, w, rfl, hx, ok, K⟩
  have e0 : startD 4 [x] = [some x, none, none, none] := rfl
  rw [e0]
  unfold rd_law_least
  refine seq fun N hN => ?_
  walk_at "F"
  simp only [hx]
  walk_at "D"
  refine ⟨ok.q.1, hN _ _ ?_⟩; clear hN N
  have hl : (sortU ts).length < 4000 := Nat.lt_of_le_of_lt (sortU_len ts) ok.q.1
  have hq : ∀ s ∈ sortU ts, s.length = n := fun s hs => ok.len s (mem_sortU.mp hs)
  walk_at "D"
  refine ⟨size_of (Nat.le_of_lt hl) (by omega), ?_⟩
  rw [List.map_map]
  refine comp_fmT _ (fun a => decide ((sortU ts).filter (fun b => decide (b ≠ a) && divB b a) = [])) (fun a => .d (TI a)) trivial _ _ ?_ ?_
  · intro a ha Q1 Q2 h
    walk_at "D"
    refine ⟨size_of (Nat.le_of_lt hl) (by omega), ?_⟩
    rw [List.map_map]
    refine comp_fmT _ (fun b => decide (b ≠ a) && divB b a) (fun b => .d (TI b)) trivial _ _ ?_ ?_
    · intro b hb Q3 Q4 h2
      walk_at "D"
      by_cases e : b = a
      · simp only [e, decide_true, Bool.not_true]
        simp only [e, ne_eq, not_true_eq_false, decide_false, Bool.false_and] at h2
        exact h2
      · simp only [e, decide_false, Bool.not_false, if_true]
        simp only [ne_eq, e, not_false_eq_true, decide_true, Bool.true_and] at h2
        refine ⟨b, a, n, rfl, hq b hb, hq a ha, ok.2.1, ?_⟩
        walk_at "D"
        exact h2
    · rw [tis_dv0]
      walk_at "D"
      exact ⟨by decide, h⟩
  · rw [tis_dv0]
    walk_at "D"
    exact fg_ret K
def sp_law_monomial : SpD := fun xs st Q => ∃ (a : Addr) (n : Nat) (top : Int) (B : Nat), xs = [.r a, I n, I top] ∧ n ≤ 100 ∧ 0 ≤ top ∧ top < 2 ^ 29 ∧ B + 200 < 2 ^ 50 ∧ DrawSt st a B ∧
  ∀ (v : List Int) st', Mon n top v → DrawSt st' a (B + 200) → (∀ b, b ≠ a → st' b = st b) → Q (.d (TI v)) st'
theorem len_law_monomial : ∀ xs st Q, sp_law_monomial xs st Q → xs.length = 3 := by rintro xs st Q ⟨a, n, w, B, rfl, _⟩; rfl
theorem sem_law_monomial : ∀ xs st Q, sp_law_monomial xs st Q → rd_law_monomial sp_law_draw { nx := fun _ st' => Fg Q (.d .none) st', rt := Fg Q } (startD 4 xs) st := by
  rintro xs st Q ⟨a, n, w, B, rfl, hn, w1, w2, hB, D, K⟩
  have e0 : startD 4 [.r a, I n, I w] = [some (.r a), some (I n), some (I w), none] := rfl
  rw [e0]
  unfold rd_law_monomial
  walk_at "D"
  refine ⟨by omega, by omega, by rw [List.length_range, sizeL]; omega, ?_⟩
  refine comp_wordI _ (fun i acc s => ∃ v : List Int, acc = (v.map .int).map .d ∧ v.length = i ∧ (∀ x ∈ v, 0 ≤ x ∧ x ≤ w) ∧ DrawSt s a (B + 2 * i) ∧ ∀ b, b ≠ a → s b = st b) (fun _ _ _ _ => trivial) _ st ⟨[], rfl, rfl, (by intro x hx; cases hx), D, fun _ _ => rfl⟩ ?_ ?_
  · rintro i p acc s hp ⟨v, rfl, h1, h2, D, fr⟩ Q1 h
    obtain ⟨rfl, hi⟩ := range_some hp
    walk_at "D"
    refine draw D (by omega) (by omega) (by omega) fun d1 s1 l1 u1 D1 fr1 => ?_
    walk_at "D"
    by_cases hd : 0 < d1
    · simp only [hd, decide_true, if_true]
      refine draw D1 (by omega) (by omega) (by omega) fun d2 s2 l2 u2 D2 fr2 => ?_
      refine h _ _ ⟨v ++ [d2], by simp, by simp; omega, ?_, D2.mono (by omega), fun b hb => by rw [fr2 b hb, fr1 b hb, fr b hb]⟩
      intro x hx
      rcases List.mem_append.mp hx with hx | hx
      · exact h2 x hx
      · rw [List.mem_singleton.mp hx]; omega
    · simp only [hd, decide_false]
      walk_at "D"
      refine h _ _ ⟨v ++ [0], by simp, by simp; omega, ?_, D1.mono (by omega), fun b hb => by rw [fr1 b hb, fr b hb]⟩
      intro x hx
      rcases List.mem_append.mp hx with hx | hx
      · exact h2 x hx
      · rw [List.mem_singleton.mp hx]; omega
  · rintro acc s ⟨v, rfl, h1, h2, D, fr⟩
    rw [List.length_range] at h1 D
    walk_at "D"
    exact fg_ret (K v s ⟨h1, h2⟩ (D.mono (by omega)) fr)
/-- the least generators of an ideal -/
def Idl (n : Nat) (w : Int) (cnt : Nat) (L : List (List Int)) : Prop := minL L = L ∧ L.length ≤ cnt ∧ ∀ t ∈ L, Mon n w t
def sp_law_ideal : SpD := fun xs st Q => ∃ (a : Addr) (n cnt : Nat) (top : Int) (B : Nat), xs = [.r a, I n, I cnt, I top] ∧ 1 ≤ n ∧ n ≤ 100 ∧ cnt ≤ 60 ∧ 0 ≤ top ∧ top < 2 ^ 29 ∧ B + 20000 < 2 ^ 50 ∧ DrawSt st a B ∧
  ∀ (L : List (List Int)) st', Idl n top cnt L → (∀ t ∈ L, 0 < t.sum) → DrawSt st' a (B + 20000) → (∀ b, b ≠ a → st' b = st b) → Q (.d (idl n L)) st'
theorem len_law_ideal : ∀ xs st Q, sp_law_ideal xs st Q → xs.length = 4 := by rintro xs st Q ⟨a, n, c, w, B, rfl, _⟩; rfl
theorem sem_law_ideal : ∀ xs st Q, sp_law_ideal xs st Q → rd_law_ideal sp_law_draw sp_law_monomial sp_law_least { nx := fun _ st' => Fg Q (.d .none) st', rt := Fg Q } (startD 7 xs) st := by
  rintro xs st Q ⟨a, n, cnt, top, B, rfl, hn0, hn, hcnt, w1, w2, hB, D, K⟩
  have e0 : startD 7 [.r a, I n, I cnt, I top] = [some (.r a), some (I n), some (I cnt), some (I top), none, none, none] := rfl
  rw [e0]
  unfold rd_law_ideal
  refine seq fun N hN => ?_
  walk_at "D"
  refine draw D (by omega) (by omega) (by omega) fun v s1 l1 u1 D1 fr1 => ?_
  obtain ⟨c, rfl⟩ : ∃ c : Nat, v = (c : Int) := ⟨v.toNat, by omega⟩
  walk_at "D"
  refine ⟨by omega, by omega, by rw [List.length_range, sizeL]; omega, ?_⟩
  refine comp_wordI _ (fun i acc s => ∃ ts : List (List Int), acc = (ts.map TI).map .d ∧ ts.length = i ∧ (∀ t ∈ ts, Mon n top t) ∧ DrawSt s a (B + 1 + 200 * i) ∧ ∀ b, b ≠ a → s b = st b) (fun _ _ _ _ => trivial) _ s1 ⟨[], rfl, rfl, (by intro x hx; cases hx), D1, fr1⟩ ?_ ?_
  · rintro i p acc s hp ⟨ts, rfl, h1, h2, D, fr⟩ Q1 h
    obtain ⟨rfl, hi⟩ := range_some hp
    walk_at "D"
    refine ⟨a, n, top, _, rfl, hn, w1, w2, by omega, D, fun t s2 ht D2 fr2 => ?_⟩
    refine h _ _ ⟨ts ++ [t], by simp, by simp; omega, ?_, D2.mono (by omega), fun b hb => by rw [fr2 b hb, fr b hb]⟩
    intro x hx
    rcases List.mem_append.mp hx with hx | hx
    · exact h2 x hx
    · rw [List.mem_singleton.mp hx]; exact ht
  · rintro acc s ⟨ts, rfl, h1, h2, D, fr⟩
    rw [List.length_range] at h1 D
    walk_at "D"
    refine hN _ _ ?_; clear hN N
    walk_at "D"
    refine ⟨size_of (m := 60) (by omega) (by omega), ?_⟩
    rw [List.map_map]
    refine comp_fmT _ (fun t => decide (0 < t.sum)) (fun t => .d (TI t)) trivial _ _ ?_ ?_
    · intro t ht Q1 Q2 h
      walk_at "D"
      by_cases e : 0 < t.sum
      · simp only [e, decide_true, if_true] at h ⊢
        walk_at "D"
        exact h
      · simp only [e, decide_false] at h ⊢
        walk_at "D"
        exact h
    · rw [tis_dv0]
      walk_at "D"
      have hf : (ts.filter fun t => decide (0 < t.sum)).length ≤ c := Nat.le_trans (List.length_filter_le _ _) (by omega)
      have hm : ∀ t ∈ ts.filter (fun t => decide (0 < t.sum)), Mon n top t := fun t ht => h2 t (List.mem_filter.mp ht).1
      have hle : ∀ t ∈ ts.filter (fun t => decide (0 < t.sum)), t.length = n := fun t ht => (hm t ht).1
      refine ⟨_, ts.filter fun t => decide (0 < t.sum), n, top, rfl, rfl, ⟨hn0, by omega, by omega, hm⟩, ?_⟩
      walk_at "D"
      refine ⟨by decide, fg_ret (K _ s ⟨min_idem hle, Nat.le_trans (min_len _) (by omega), fun t ht => hm t (min_sub t ht)⟩ (fun t ht => of_decide_eq_true (List.mem_filter.mp (min_sub t ht)).2) (D.mono (by omega)) fr)⟩
/-- the program's own -/
def sp_least_ones : SpD := fun xs st Q => ∃ (x : DV) (ts : List (List Int)) (n : Nat) (w : Int), xs = [x] ∧ sitems st x = some ((ts.map TI).map .d) ∧ OkS n w ts ∧
  ∀ p st', st p = none → st' p = some (.lst (((minL ts).map TI).map .d)) → (∀ b, b ≠ p → st' b = st b) → Q (.r p) st'
theorem len_least_ones : ∀ xs st Q, sp_least_ones xs st Q → xs.length = 1 := by rintro xs st Q ⟨a, ts, n, w, rfl, _⟩; rfl
theorem sem_least_ones : ∀ xs st Q, sp_least_ones xs st Q → rd_least_ones sp_divides { nx := fun _ st' => Fg Q (.d .none) st', rt := Fg Q } (startD 4 xs) st := by
  rintro xs st Q ⟨x, ts, n, w, rfl, hx, ok, K⟩
  have e0 : startD 4 [x] = [some x, none, none, none] := rfl
  rw [e0]
  unfold rd_least_ones
  have hl : (sortU ts).length < 4000 := Nat.lt_of_le_of_lt (sortU_len ts) ok.q.1
  have hacc : ∀ i, (((sortU ts).take i).foldl stepL []).length ≤ i := by
    have : ∀ (l acc : List (List Int)), (l.foldl stepL acc).length ≤ acc.length + l.length := by
      intro l
      induction l with
      | nil => exact fun acc => Nat.le_refl _
      | cons m l ih =>
        intro acc
        refine Nat.le_trans (ih (stepL acc m)) ?_
        unfold stepL
        split
        · simp <;> omega
        · simp <;> omega
    intro i
    refine Nat.le_trans (this _ []) ?_
    simp only [List.length_nil, List.length_take]
    omega
  refine seq fun N hN => ?_
  walk_at "D"
  refine ⟨by decide, fun p hp => hN _ _ ?_⟩; clear hN N
  refine seq fun N hN => ?_
  walk_at "F"
  simp only [qiSeq, BS.qSortB, qv, List.getElem?_cons_zero, sitems_le hx (le_up1 hp)]
  walk_at "D"
  refine ⟨ok.q.1, ?_⟩
  rw [List.map_map]
  refine for_byT _ (fun i ε s => ∃ y, ε = [some x, some (.r p), y, none] ∧ s p = some (.lst (((((sortU ts).take i).foldl stepL []).map TI).map .d)) ∧ ∀ b, b ≠ p → s b = st b) ⟨none, rfl, up_same, fun b hb => up_ne hb⟩ (fun _ _ _ _ => trivial) ?_ ?_
  · rintro i m ε s hm ⟨y, rfl, hs, fr⟩ L hL
    walk_at "D"
    simp only [hs]
    walk_at "D"
    have hlen := hacc i
    have hi : i < (sortU ts).length := (List.getElem?_eq_some_iff.mp hm).1
    refine ⟨size_of (m := 4000) (by omega) (by omega), ?_⟩
    rw [List.map_map]
    have hn : (sortU ts).take (i + 1) = (sortU ts).take i ++ [m] := by rw [List.take_succ, hm]; rfl
    generalize hA : ((sortU ts).take i).foldl stepL [] = A at hs hlen ⊢
    refine comp_mapT _ (fun o => Bo (divB o m)) (by rw [← List.map_map]; exact hs) _ _ ?_ ?_
    · intro o ho Q1 h
      walk_at "D"
      exact ⟨o, m, rfl, h⟩
    · have e1 : [] ++ A.map (fun o => Bo (divB o m)) = ((A.map fun o => divB o m).map PyData.bool).map DV.d := by
        rw [List.nil_append, List.map_map, List.map_map]
        rfl
      rw [e1]
      walk_at "D"
      have hstep : ((sortU ts).take (i + 1)).foldl stepL [] = if (A.map fun o => divB o m).any id = true then A else A ++ [m] := by rw [hn, List.foldl_append, hA]; rfl
      cases e : (A.map fun o => divB o m).any id with
      | true =>
        rw [e, if_pos rfl] at hstep
        walk_at "D"
        exact hL _ _ ⟨_, rfl, by rw [hstep]; exact hs, fr⟩
      | false =>
        rw [e, if_neg Bool.false_ne_true] at hstep
        walk_at "D"
        refine ⟨⟨_, hs⟩, _, hs, by simp only [List.length_map, sizeL]; omega, hL _ _ ⟨_, rfl, ?_, fun b hb => by rw [up_ne hb]; exact fr b hb⟩⟩
        rw [up_same, hstep]
        simp
  · rintro ε s ⟨y, rfl, hs, fr⟩
    refine hN _ _ ?_
    walk_at "D"
    rw [List.take_length, fold_min ok.len] at hs
    exact fg_ret (K p s hp hs fr)
def sp_made : SpD := fun xs st Q => ∃ (x : DV) (ts : List (List Int)) (n : Nat), xs = [I n, x] ∧ sitems st x = some ((ts.map TI).map .d) ∧ OkS n 60 ts ∧ (minL ts).length ≤ 60 ∧ Q (.d (idl n (minL ts))) st
theorem len_made : ∀ xs st Q, sp_made xs st Q → xs.length = 2 := by rintro xs st Q ⟨a, ts, n, rfl, _⟩; rfl
theorem foldl_max_le {b : Int} : ∀ (l : List Int) (a : Int), a ≤ b → (∀ x ∈ l, x ≤ b) → l.foldl max a ≤ b
  | [], a, h, _ => h
  | x :: l, a, h, hl => foldl_max_le l (max a x) (by have := hl x List.mem_cons_self; omega) fun y hy => hl y (List.mem_cons_of_mem _ hy)
theorem sem_made : ∀ xs st Q, sp_made xs st Q → rd_made sp_least_ones { nx := fun _ st' => Fg Q (.d .none) st', rt := Fg Q } (startD 4 xs) st := by
  rintro xs st Q ⟨x, ts, n, rfl, hx, ok, h60, K⟩
  have e0 : startD 4 [I n, x] = [some (I n), some x, none, none] := rfl
  rw [e0]
  unfold rd_made
  refine seq fun N hN => ?_
  walk_at "D"
  refine ⟨x, ts, n, 60, rfl, hx, ok, fun p s hp hs fr => hN _ _ ?_⟩; clear hN N
  refine seq fun N hN => ?_
  walk_at "D"
  simp only [hs]
  walk_at "D"
  have hno : ¬ (60 : Int) < ((minL ts).length : Int) := by omega
  simp only [hno, decide_false]
  walk_at "D"
  refine hN _ _ ?_; clear hN N
  refine seq fun N hN => ?_
  walk_at "D"
  simp only [hs]
  rw [List.map_map]
  refine for_byT _ (fun i ε s' => s' = s ∧ ∃ y, ε = [some (I n), some x, some (.r p), y]) ⟨rfl, none, rfl⟩ (fun _ _ s' h => by rw [h.1, hs, List.map_map]) ?_ ?_
  · rintro i m ε s' hm ⟨rfl, y, rfl⟩ L hL
    have hmon := ok.2.2.2 m (min_sub m (List.mem_of_getElem? hm))
    cases m with
    | nil => have := hmon.1; have := ok.1; simp at *; omega
    | cons a r =>
      walk_at "D"
      have e1 : dints (DV.d (.int a) :: List.map DV.d (List.map PyData.int r)) = some (a :: r) := dints_map2 (a :: r)
      simp only [e1]
      walk_at "D"
      have hno : ¬ 60 < r.foldl max a := by
        have := foldl_max_le r a (hmon.2 a List.mem_cons_self).2 fun x hx => (hmon.2 x (List.mem_cons_of_mem _ hx)).2
        omega
      simp only [hno, decide_false]
      walk_at "D"
      exact hL _ _ ⟨rfl, _, rfl⟩
  · rintro ε s' ⟨rfl, y, rfl⟩
    refine hN _ _ ?_
    walk_at "D"
    simp only [hs]
    walk_at "D"
    exact ⟨by decide, fg_le (le_up hp fr) K⟩
/-! sums, products, meets -/
def spO (f : List (List Int) → List (List Int) → List (List Int)) : SpD := fun xs st Q => ∃ (A B : List (List Int)) (n : Nat), xs = [.d (idl n A), .d (idl n B)] ∧ OkS n 60 (f A B) ∧ (minL (f A B)).length ≤ 60 ∧ A.length ≤ 1000 ∧ B.length ≤ 1000 ∧ (∀ a ∈ A, a.length ≤ 1000) ∧ Q (.d (idl n (minL (f A B)))) st
theorem lenO {f : List (List Int) → List (List Int) → List (List Int)} : ∀ xs st Q, spO f xs st Q → xs.length = 2 := by rintro xs st Q ⟨a, b, n, rfl, _⟩; rfl
def pairL (f : List Int → List Int → List Int) (A B : List (List Int)) : List (List Int) := A.flatMap fun a => B.map (f a)
abbrev sp_sum_of : SpD := spO (· ++ ·)
abbrev sp_meet_of : SpD := spO (pairL lcmL)
abbrev sp_product_of : SpD := spO (pairL mulL)
theorem len_sum_of : ∀ xs st Q, sp_sum_of xs st Q → xs.length = 2 := lenO
theorem len_meet_of : ∀ xs st Q, sp_meet_of xs st Q → xs.length = 2 := lenO
theorem len_product_of : ∀ xs st Q, sp_product_of xs st Q → xs.length = 2 := lenO
theorem sem_sum_of : ∀ xs st Q, sp_sum_of xs st Q → rd_sum_of sp_made { nx := fun _ st' => Fg Q (.d .none) st', rt := Fg Q } (startD 2 xs) st := by
  rintro xs st Q ⟨A, B, n, rfl, ok, h60, hA, hB, _, K⟩
  have e0 : startD 2 [.d (idl n A), .d (idl n B)] = [some (.d (idl n A)), some (.d (idl n B))] := rfl
  rw [e0]
  unfold rd_sum_of
  walk_at "D"
  exact ⟨size_of (m := 2000) (by omega) (by omega), _, A ++ B, n, rfl, rfl, ok, h60, fg_ret K⟩
theorem semP_of {f : List Int → List Int → List Int} {sp : SpD} (hs : ∀ a b st Q, a.length ≤ 1000 → Q (.d (TI (f a b))) st → sp [.d (TI a), .d (TI b)] st Q) :
    ∀ xs st Q, spO (pairL f) xs st Q → (qRet (qCall sp_made (qCons (qOp qIx (qv 0) (qc (.d (.int 0)))) (qCons (qLc2 false (qiSeq (qOp qIx (qv 0) (qc (.d (.int 1))))) (qgN 2) qYes (qiSeq (qOp qIx (qv 1) (qc (.d (.int 1))))) (qgN 3) qYes (qCall sp (qCons (qv 2) (qCons (qv 3) qNil))) [2, 3] [3]) qNil)))) { nx := fun _ st' => Fg Q (.d .none) st', rt := Fg Q } (startD 4 xs) st := by
  rintro xs st Q ⟨A, B, n, rfl, ok, h60, hA, hB, hl, K⟩
  have e0 : startD 4 [.d (idl n A), .d (idl n B)] = [some (.d (idl n A)), some (.d (idl n B)), none, none] := rfl
  rw [e0]
  walk_at "D"
  rw [List.map_map]
  refine comp2_T _ (fun a => B.map fun b => .d (TI (f a b))) 10000 trivial _ _ ?_ ?_ ?_
  · intro a ha acc Kc hacc k
    walk_at "D"
    refine ⟨by rw [sizeL]; omega, ?_⟩
    rw [List.map_map]
    refine comp_mapT _ (fun b => .d (TI (f a b))) trivial _ _ ?_ k
    intro b hb Q1 h
    walk_at "D"
    exact hs a b _ _ (hl a ha) h
  · have := ok.2.2.1
    have e : (A.flatMap fun a => B.map fun b => DV.d (TI (f a b))).length = (pairL f A B).length := by
      unfold pairL
      simp only [List.length_flatMap, List.length_map]
    rw [List.nil_append, e]
    omega
  · have e : [] ++ (A.flatMap fun a => B.map fun b => DV.d (TI (f a b))) = ((pairL f A B).map TI).map .d := by
      unfold pairL
      rw [List.nil_append, List.map_flatMap, List.map_flatMap]
      simp only [List.map_map]
      rfl
    rw [e]
    walk_at "D"
    exact ⟨_, pairL f A B, n, rfl, rfl, ok, h60, fg_ret K⟩
theorem sem_meet_of : ∀ xs st Q, sp_meet_of xs st Q → rd_meet_of sp_lcm_of sp_made { nx := fun _ st' => Fg Q (.d .none) st', rt := Fg Q } (startD 4 xs) st := semP_of fun a b st Q h k => ⟨a, b, rfl, h, k⟩
theorem sem_product_of : ∀ xs st Q, sp_product_of xs st Q → rd_product_of sp_times sp_made { nx := fun _ st' => Fg Q (.d .none) st', rt := Fg Q } (startD 4 xs) st := semP_of fun a b st Q h k => ⟨a, b, rfl, h, k⟩
def sp_contains : SpD := fun xs st Q => ∃ (L : List (List Int)) (x : PyData) (c : List Int), xs = [.d (.tuple [x, TT L]), .d (TI c)] ∧ L.length ≤ 1000 ∧ Q (Bo (inL L c)) st
theorem len_contains : ∀ xs st Q, sp_contains xs st Q → xs.length = 2 := by rintro xs st Q ⟨a, b, n, rfl, _⟩; rfl
theorem sem_contains : ∀ xs st Q, sp_contains xs st Q → rd_contains sp_divides { nx := fun _ st' => Fg Q (.d .none) st', rt := Fg Q } (startD 3 xs) st := by
  rintro xs st Q ⟨L, x, c, rfl, hl, K⟩
  have e0 : startD 3 [.d (.tuple [x, TT L]), .d (TI c)] = [some (.d (.tuple [x, TT L])), some (.d (TI c)), none] := rfl
  rw [e0]
  unfold rd_contains
  walk_at "D"
  refine ⟨size_of hl (by omega), ?_⟩
  rw [List.map_map]
  refine comp_mapT _ (fun g => Bo (divB g c)) trivial _ _ ?_ ?_
  · intro g hg Q1 h
    walk_at "D"
    exact ⟨g, c, rfl, h⟩
  · have e1 : [] ++ L.map (fun o => Bo (divB o c)) = ((L.map fun o => divB o c).map PyData.bool).map DV.d := by
      rw [List.nil_append, List.map_map, List.map_map]
      rfl
    rw [e1]
    walk_at "D"
    refine fg_ret ?_
    have e2 : (L.map fun o => divB o c).any id = inL L c := by
      unfold inL
      rw [List.any_map]
      rfl
    rw [e2]
    exact K
def sp_is_within : SpD := fun xs st Q => ∃ (A B : List (List Int)) (x y : PyData), xs = [.d (.tuple [x, TT A]), .d (.tuple [y, TT B])] ∧ A.length ≤ 1000 ∧ B.length ≤ 1000 ∧ Q (Bo (A.all fun g => inL B g)) st
theorem len_is_within : ∀ xs st Q, sp_is_within xs st Q → xs.length = 2 := by rintro xs st Q ⟨a, b, n, m, rfl, _⟩; rfl
theorem sem_is_within : ∀ xs st Q, sp_is_within xs st Q → rd_is_within sp_contains { nx := fun _ st' => Fg Q (.d .none) st', rt := Fg Q } (startD 3 xs) st := by
  rintro xs st Q ⟨A, B, x, y, rfl, hA, hB, K⟩
  have e0 : startD 3 [.d (.tuple [x, TT A]), .d (.tuple [y, TT B])] = [some (.d (.tuple [x, TT A])), some (.d (.tuple [y, TT B])), none] := rfl
  rw [e0]
  unfold rd_is_within
  walk_at "D"
  refine ⟨size_of hA (by omega), ?_⟩
  rw [List.map_map]
  refine comp_mapT _ (fun g => Bo (inL B g)) trivial _ _ ?_ ?_
  · intro g hg Q1 h
    walk_at "D"
    exact ⟨B, y, g, rfl, hB, h⟩
  · have e1 : [] ++ A.map (fun o => Bo (inL B o)) = ((A.map fun o => inL B o).map PyData.bool).map DV.d := by
      rw [List.nil_append, List.map_map, List.map_map]
      rfl
    rw [e1]
    walk_at "D"
    refine fg_ret ?_
    have e2 : (A.map fun o => inL B o).all id = A.all fun g => inL B g := by
      rw [List.all_map]
      rfl
    rw [e2]
    exact K
/-! the law's own -/
def sp2 (f : List Int → List Int → List Int) : SpD := fun xs st Q => ∃ (a b : List Int) (n : Nat), xs = [.d (TI a), .d (TI b)] ∧ a.length = n ∧ b.length = n ∧ n ≤ 1000 ∧ Q (.d (TI (f a b))) st
theorem len_sp2 {f : List Int → List Int → List Int} : ∀ xs st Q, sp2 f xs st Q → xs.length = 2 := by rintro xs st Q ⟨a, b, n, rfl, _⟩; rfl
abbrev sp_law_lcm : SpD := sp2 lcmL
abbrev sp_law_times : SpD := sp2 mulL
theorem len_law_lcm : ∀ xs st Q, sp_law_lcm xs st Q → xs.length = 2 := len_sp2
theorem len_law_times : ∀ xs st Q, sp_law_times xs st Q → xs.length = 2 := len_sp2
theorem sem2_of {f : List Int → List Int → List Int} {fe : Int → Int → Int} {te : TD} (hf : f = List.zipWith fe)
    (he : ∀ (a b : List Int) (j : Nat) (st : Sto) (Q : DV → Sto → Prop), j < a.length → j < b.length → Q (I (fe (gd a j) (gd b j))) st → te [some (.d (TI a)), some (.d (TI b)), some (I j)] st Q) :
    ∀ xs st Q, sp2 f xs st Q → (qRet (qCB qTupleC (qCons (qLc false (qiRng1 (qCons (qCB qLen (qCons (qv 0) qNil)) qNil)) (qgN 2) qYes te [2]) qNil))) { nx := fun _ st' => Fg Q (.d .none) st', rt := Fg Q } (startD 3 xs) st := by
  rintro xs st Q ⟨a, b, n, rfl, ha, hb, hn, K⟩
  have e0 : startD 3 [.d (TI a), .d (TI b)] = [some (.d (TI a)), some (.d (TI b)), none] := rfl
  rw [e0]
  walk_at "D"
  refine ⟨by omega, by omega, ?_⟩
  rw [ha]
  refine ⟨by rw [List.length_range, sizeL]; omega, ?_⟩
  refine comp_mapT _ (fun (j : Nat) => I (fe (gd a j) (gd b j))) trivial _ _ ?_ ?_
  · intro j hj Q1 h
    rw [List.mem_range] at hj
    walk_at "D"
    exact he a b j _ _ (by omega) (by omega) h
  · rw [ints_dv0, range_zw ha hb, ← hf]
    walk_at "D"
    exact fg_ret K
theorem sem_law_lcm : ∀ xs st Q, sp_law_lcm xs st Q → rd_law_lcm { nx := fun _ st' => Fg Q (.d .none) st', rt := Fg Q } (startD 3 xs) st :=
  sem2_of (fe := max) rfl fun a b j st Q h1 h2 h => by
    walk_at "D"
    simp only [atI_gd h1, atI_gd h2]
    rw [show (if gd b j > gd a j then gd b j else gd a j) = max (gd a j) (gd b j) by rw [Int.max_def]; split <;> split <;> omega]
    exact h
theorem sem_law_times : ∀ xs st Q, sp_law_times xs st Q → rd_law_times { nx := fun _ st' => Fg Q (.d .none) st', rt := Fg Q } (startD 3 xs) st :=
  sem2_of (fe := (· + ·)) rfl fun a b j st Q h1 h2 h => by
    walk_at "D"
    simp only [atI_gd h1, atI_gd h2]
    exact h
def sp_law_in : SpD := fun xs st Q => ∃ (L : List (List Int)) (c : List Int) (n : Nat), xs = [.d (TT L), .d (TI c)] ∧ L.length ≤ 1000 ∧ n ≤ 1000 ∧ (∀ g ∈ L, g.length = n) ∧ c.length = n ∧ Q (Bo (inL L c)) st
theorem len_law_in : ∀ xs st Q, sp_law_in xs st Q → xs.length = 2 := by rintro xs st Q ⟨a, b, n, rfl, _⟩; rfl
theorem inL_filter (L : List (List Int)) (c : List Int) : inL L c = !decide (L.filter (fun g => divB g c) = []) := by
  cases h : inL L c with
  | true =>
    obtain ⟨g, h1, h2⟩ := inL_iff.mp h
    rw [decide_eq_false fun e => by rw [List.filter_eq_nil_iff] at e; exact e g h1 h2]
    rfl
  | false =>
    rw [decide_eq_true (List.filter_eq_nil_iff.mpr fun g h1 h2 => by rw [inL_iff.mpr ⟨g, h1, h2⟩] at h; cases h)]
    rfl
theorem sem_law_in : ∀ xs st Q, sp_law_in xs st Q → rd_law_in sp_law_divides { nx := fun _ st' => Fg Q (.d .none) st', rt := Fg Q } (startD 3 xs) st := by
  rintro xs st Q ⟨L, c, n, rfl, hl, hn, hL, hc, K⟩
  have e0 : startD 3 [.d (TT L), .d (TI c)] = [some (.d (TT L)), some (.d (TI c)), none] := rfl
  rw [e0]
  unfold rd_law_in
  walk_at "D"
  refine ⟨size_of hl (by omega), ?_⟩
  rw [List.map_map]
  refine comp_fmT _ (fun g => divB g c) (fun g => .d (TI g)) trivial _ _ ?_ ?_
  · intro g hg Q1 Q2 h
    walk_at "D"
    refine ⟨g, c, n, rfl, hL g hg, hc, hn, ?_⟩
    walk_at "D"
    exact h
  · rw [tis_dv0]
    walk_at "D"
    rw [← inL_filter]
    exact ⟨by decide, fg_ret K⟩
/-! boxes -/
def sp_law_box : SpD := fun xs st Q => ∃ (x0 : DV) (tops : List Int), xs = [x0] ∧ sitems st x0 = some ((tops.map .int).map .d) ∧ tops.length ≤ 100 ∧ (∀ t ∈ tops, 0 ≤ t ∧ t ≤ 60) ∧ (∀ i, (boxL (tops.take i)).length ≤ 100000) ∧
  ∀ (x : DV) st', Le st st' → (∀ a, x = .r a → st a = none) → sitems st' x = some (((boxL tops).map TI).map .d) → Q x st'
theorem len_law_box : ∀ xs st Q, sp_law_box xs st Q → xs.length = 1 := by rintro xs st Q ⟨a, t, rfl, _⟩; rfl
theorem boxL_snoc (ts : List Int) (t : Int) : boxL (ts ++ [t]) = (boxL ts).flatMap fun a => (List.range (t + 1).toNat).map fun (k : Nat) => a ++ [(k : Int)] := by
  unfold boxL
  rw [List.foldl_append]
  rfl
theorem sem_law_box : ∀ xs st Q, sp_law_box xs st Q → rd_law_box { nx := fun _ st' => Fg Q (.d .none) st', rt := Fg Q } (startD 6 xs) st := by
  rintro xs st Q ⟨x0, tops, rfl, hx0, hl, ht, hsz, K⟩
  have e0 : startD 6 [x0] = [some x0, none, none, none, none, none] := rfl
  rw [e0]
  unfold rd_law_box
  refine seq fun N hN => ?_
  walk_at "D"
  refine ⟨by decide, by decide, hN _ _ ?_⟩; clear hN N
  refine seq fun N hN => ?_
  obtain ⟨inv0, hsrc0, hinv0⟩ := src_of2 hx0
  walk_at "F"
  simp only [qiSeq]
  walk_at "F"
  simp only [hsrc0]
  rw [List.map_map]
  refine for_byT _ (fun i ε s => Le st s ∧ i ≤ tops.length ∧ ∃ (x : DV) (y2 y3 y4 : Option DV), ε = [some x0, some x, y2, y3, y4, none] ∧ (∀ a, x = .r a → st a = none) ∧ sitems s x = some (((boxL (tops.take i)).map TI).map .d))
    ⟨Le.refl _, Nat.zero_le _, .d (.list [.tuple []]), none, none, none, rfl, (fun a e => nomatch e), rfl⟩ (fun _ _ s h => hinv0 _ (sitems_le hx0 h.1)) ?_ ?_
  · rintro i top ε s hi ⟨le, hil, x, y2, y3, y4, rfl, _, hx⟩ L hL
    have hit : i < tops.length := (List.getElem?_eq_some_iff.mp hi).1
    have htop := ht top (List.mem_of_getElem? hi)
    have hnx : boxL (tops.take (i + 1)) = (boxL (tops.take i)).flatMap fun a => (List.range (top + 1).toNat).map fun (k : Nat) => a ++ [(k : Int)] := by
      rw [List.take_succ, hi]
      exact boxL_snoc _ _
    have hF := fun c hc => (mem_boxL (tops := tops.take i) (c := c)).mp hc
    have hsz1 := hsz (i + 1)
    rw [hnx] at hsz1
    generalize boxL (tops.take i) = F at hx hF hnx hsz1
    walk_at "D"
    refine seq fun N hN => ?_
    walk_at "D"
    refine ⟨by decide, fun p hp => hN _ _ ?_⟩; clear hN N
    refine seq fun N hN => ?_
    walk_at "F"
    have hx2 := sitems_le hx (le_up1 (m := .lst []) hp)
    obtain ⟨inv, hsrc, hinv⟩ := src_of2 hx2
    simp only [qiSeq, qv, List.getElem?_cons_zero, List.getElem?_cons_succ, hsrc]
    rw [List.map_map]
    refine for_byT _ (fun j ε s' => Le s s' ∧ ∃ (y4 : Option DV), ε = [some x0, some x, some (.d (.int top)), some (.r p), y4, none] ∧ s' p = some (.lst ((((F.take j).flatMap fun a => (List.range (top + 1).toNat).map fun (k : Nat) => a ++ [(k : Int)]).map TI).map .d)))
      ⟨le_up1 hp, y4, rfl, up_same⟩ (fun _ _ s' h => hinv s' (sitems_le hx h.1)) ?_ ?_
    · rintro j c ε s' hc ⟨le', y4, rfl, hs'⟩ L2 hL2
      have hcF := hF c (List.mem_of_getElem? hc)
      have hcl : c.length ≤ 100 := by rw [hcF.1, List.length_take]; omega
      have hjF : j < F.length := (List.getElem?_eq_some_iff.mp hc).1
      obtain ⟨t, rfl⟩ : ∃ t : Nat, top = (t : Int) := ⟨top.toNat, by omega⟩
      have e1 : ((t : Int) + 1).toNat = t + 1 := by omega
      rw [e1] at hs' hsz1
      have hsplit : (F.take (j + 1)).flatMap (fun a => (List.range (t + 1)).map fun (k : Nat) => a ++ [(k : Int)]) = (F.take j).flatMap (fun a => (List.range (t + 1)).map fun (k : Nat) => a ++ [(k : Int)]) ++ (List.range (t + 1)).map fun (k : Nat) => c ++ [(k : Int)] := by
        rw [List.take_succ, hc]
        simp
      have hlen : ((F.take (j + 1)).flatMap (fun a => (List.range (t + 1)).map fun (k : Nat) => a ++ [(k : Int)])).length ≤ 100000 := by
        refine Nat.le_trans ?_ hsz1
        have : F.flatMap (fun a => (List.range (t + 1)).map fun (k : Nat) => a ++ [(k : Int)]) = (F.take (j + 1)).flatMap (fun a => (List.range (t + 1)).map fun (k : Nat) => a ++ [(k : Int)]) ++ (F.drop (j + 1)).flatMap (fun a => (List.range (t + 1)).map fun (k : Nat) => a ++ [(k : Int)]) := by
          rw [← List.flatMap_append, List.take_append_drop]
        rw [this, List.length_append]
        omega
      rw [hsplit, List.length_append] at hlen
      walk_at "D"
      simp only [e1, rngD0]
      walk_at "D"
      refine ⟨⟨_, hs'⟩, by omega, by omega, by rw [List.length_range, sizeL]; omega, ?_⟩
      refine comp_mapT _ (fun (k : Nat) => .d (TI (c ++ [(k : Int)]))) trivial _ _ ?_ ?_
      · intro k hk Q1 h
        walk_at "D"
        exact ⟨by decide, by rw [sizeL]; omega, h⟩
      · have e2 : [] ++ (List.range (t + 1)).map (fun (k : Nat) => DV.d (TI (c ++ [(k : Int)]))) = (((List.range (t + 1)).map fun (k : Nat) => c ++ [(k : Int)]).map TI).map .d := by
          rw [List.nil_append, List.map_map, List.map_map]
          rfl
        rw [e2]
        walk_at "D"
        refine ⟨_, _, hs', rfl, by simp only [List.length_map, List.length_range, sizeL] at hlen ⊢; omega, hL2 _ _ ⟨le'.up hp, _, rfl, ?_⟩⟩
        rw [up_same, e1, hsplit, List.map_append, List.map_append]
    · rintro ε s' ⟨le', y4, rfl, hs'⟩
      refine hN _ _ ?_
      rw [List.take_length] at hs'
      walk_at "D"
      refine hL _ _ ⟨le.trans le', by omega, .r p, _, _, _, rfl, fun a e => ?_, ?_⟩
      · cases e
        cases z : st p with
        | none => rfl
        | some m => rw [le p m z] at hp; cases hp
      rw [hnx]
      simp only [sitems, titems, litems, hs']
  · rintro ε s ⟨le, hil, x, y2, y3, y4, rfl, hr, hx⟩
    refine hN _ _ ?_
    rw [List.take_length] at hx
    walk_at "D"
    exact fg_ret (K x s le hr hx)
end UC
end

section
set_option linter.all false
set_option maxRecDepth 100000
set_option maxHeartbeats 1000000
namespace UC
open PySem L2 DL RD
/-! sums, meets, products: plain -/
theorem mon_lcm {n : Nat} {w : Int} {a b : List Int} (ha : Mon n w a) (hb : Mon n w b) : Mon n w (lcmL a b) := by
  refine ⟨len_zw ha.1 hb.1, fun x hx => ?_⟩
  unfold lcmL at hx
  rw [← range_zw ha.1 hb.1] at hx
  obtain ⟨j, hj, rfl⟩ := List.mem_map.mp hx
  rw [List.mem_range] at hj
  have h1 := ha.2 _ (gd_mem (j := j) (by rw [ha.1]; exact hj))
  have h2 := hb.2 _ (gd_mem (j := j) (by rw [hb.1]; exact hj))
  omega
theorem mon_mul {n : Nat} {w : Int} {a b : List Int} (ha : Mon n w a) (hb : Mon n w b) : Mon n (2 * w) (mulL a b) := by
  refine ⟨len_zw ha.1 hb.1, fun x hx => ?_⟩
  unfold mulL at hx
  rw [← range_zw ha.1 hb.1] at hx
  obtain ⟨j, hj, rfl⟩ := List.mem_map.mp hx
  rw [List.mem_range] at hj
  have h1 := ha.2 _ (gd_mem (j := j) (by rw [ha.1]; exact hj))
  have h2 := hb.2 _ (gd_mem (j := j) (by rw [hb.1]; exact hj))
  omega
theorem mon_zero (n : Nat) : Mon n 0 (List.replicate n 0) := ⟨List.length_replicate .., fun x hx => by rw [(List.mem_replicate.mp hx).2]; omega⟩
theorem mem_pairL {f : List Int → List Int → List Int} {A B : List (List Int)} {x : List Int} : x ∈ pairL f A B ↔ ∃ a ∈ A, ∃ b ∈ B, f a b = x := by
  unfold pairL
  simp only [List.mem_flatMap, List.mem_map]
theorem len_pairL {f : List Int → List Int → List Int} {A B : List (List Int)} : (pairL f A B).length = A.length * B.length := by
  unfold pairL
  induction A with
  | nil => simp
  | cons a A ih => rw [List.flatMap_cons, List.length_append, ih, List.length_map, List.length_cons, Nat.succ_mul, Nat.add_comm]
theorem div_lcm_iff {a b c : List Int} {n : Nat} (ha : a.length = n) (hb : b.length = n) (hc : c.length = n) : divB (lcmL a b) c = true ↔ divB a c = true ∧ divB b c = true := by
  unfold lcmL
  rw [divB_iff (len_zw ha hb) hc, divB_iff ha hc, divB_iff hb hc]
  constructor
  · intro h
    refine ⟨fun j hj => ?_, fun j hj => ?_⟩ <;> (have := h j hj; rw [gd_zw ha hb hj] at this; omega)
  · intro ⟨h1, h2⟩ j hj
    rw [gd_zw ha hb hj]
    have := h1 j hj
    have := h2 j hj
    omega
theorem div_lcm_l {a b : List Int} {n : Nat} (ha : a.length = n) (hb : b.length = n) : divB a (lcmL a b) = true := ((div_lcm_iff ha hb (len_zw ha hb)).mp (divB_refl _)).1
theorem div_lcm_r {a b : List Int} {n : Nat} (ha : a.length = n) (hb : b.length = n) : divB b (lcmL a b) = true := ((div_lcm_iff ha hb (len_zw ha hb)).mp (divB_refl _)).2
theorem div_mul_l {n : Nat} {w : Int} {a b : List Int} (ha : Mon n w a) (hb : Mon n w b) : divB a (mulL a b) = true := by
  unfold mulL
  rw [divB_iff ha.1 (len_zw ha.1 hb.1)]
  intro j hj
  rw [gd_zw ha.1 hb.1 hj]
  have h2 := hb.2 _ (gd_mem (j := j) (by rw [hb.1]; exact hj))
  omega
theorem mul_comm {a b : List Int} {n : Nat} (ha : a.length = n) (hb : b.length = n) : mulL a b = mulL b a := by
  unfold mulL
  rw [gd_ext (len_zw ha hb) (len_zw hb ha)]
  intro j hj
  rw [gd_zw ha hb hj, gd_zw hb ha hj]
  omega
theorem div_mul_r {n : Nat} {w : Int} {a b : List Int} (ha : Mon n w a) (hb : Mon n w b) : divB b (mulL a b) = true := by
  rw [mul_comm ha.1 hb.1]
  exact div_mul_l hb ha
theorem lcm_self {a : List Int} : lcmL a a = a := by
  unfold lcmL
  rw [gd_ext (n := a.length) (len_zw rfl rfl) rfl]
  intro j hj
  rw [gd_zw rfl rfl hj]
  omega
theorem lcm_zero {n : Nat} {w : Int} {a : List Int} (ha : Mon n w a) : lcmL a (List.replicate n 0) = a := by
  unfold lcmL
  rw [gd_ext (len_zw ha.1 (List.length_replicate ..)) ha.1]
  intro j hj
  rw [gd_zw ha.1 (List.length_replicate ..) hj, gd_rep hj]
  have h1 := ha.2 _ (gd_mem (j := j) (by rw [ha.1]; exact hj))
  omega
theorem mul_zero {n : Nat} {a : List Int} (ha : a.length = n) : mulL a (List.replicate n 0) = a := by
  unfold mulL
  rw [gd_ext (len_zw ha (List.length_replicate ..)) ha]
  intro j hj
  rw [gd_zw ha (List.length_replicate ..) hj, gd_rep hj]
  omega
section
variable {n : Nat} {w : Int} {A B : List (List Int)}
theorem min_self {A S : List (List Int)} (hA : minL A = A) (hl : ∀ a ∈ A, a.length = n) (hS : ∀ s ∈ S, s.length = n) (c : ∀ s ∈ S, ∃ a ∈ A, divB a s = true) (c' : ∀ a ∈ A, ∃ s ∈ S, divB s a = true) : minL S = A := by
  rw [min_cong hS hl c c', hA]
theorem min_comm_app (hA : ∀ a ∈ A, a.length = n) (hB : ∀ b ∈ B, b.length = n) : minL (B ++ A) = minL (A ++ B) := by
  have h : ∀ s ∈ A ++ B, s.length = n := fun s hs => (List.mem_append.mp hs).elim (hA s) (hB s)
  have h' : ∀ s ∈ B ++ A, s.length = n := fun s hs => (List.mem_append.mp hs).elim (hB s) (hA s)
  refine min_cong h' h (fun s hs => ⟨s, ?_, divB_refl s⟩) fun s hs => ⟨s, ?_, divB_refl s⟩
  · exact List.mem_append.mpr (List.mem_append.mp hs).symm
  · exact List.mem_append.mpr (List.mem_append.mp hs).symm
theorem min_comm_pair {f : List Int → List Int → List Int} (hf : ∀ a b, a.length = n → b.length = n → (f a b).length = n) (hc : ∀ a b, a.length = n → b.length = n → f a b = f b a) (hA : ∀ a ∈ A, a.length = n) (hB : ∀ b ∈ B, b.length = n) : minL (pairL f B A) = minL (pairL f A B) := by
  have h : ∀ s ∈ pairL f A B, s.length = n := fun s hs => by
    obtain ⟨a, ha, b, hb, rfl⟩ := mem_pairL.mp hs
    exact hf a b (hA a ha) (hB b hb)
  have h' : ∀ s ∈ pairL f B A, s.length = n := fun s hs => by
    obtain ⟨a, ha, b, hb, rfl⟩ := mem_pairL.mp hs
    exact hf a b (hB a ha) (hA b hb)
  refine min_cong h' h (fun s hs => ⟨s, ?_, divB_refl s⟩) fun s hs => ⟨s, ?_, divB_refl s⟩
  · obtain ⟨b, hb, a, ha, rfl⟩ := mem_pairL.mp hs
    exact mem_pairL.mpr ⟨a, ha, b, hb, hc a b (hA a ha) (hB b hb)⟩
  · obtain ⟨a, ha, b, hb, rfl⟩ := mem_pairL.mp hs
    exact mem_pairL.mpr ⟨b, hb, a, ha, hc b a (hB b hb) (hA a ha)⟩
theorem len_pm {f : List Int → List Int → List Int} (hf : ∀ a b, a.length = n → b.length = n → (f a b).length = n) (hA : ∀ a ∈ A, a.length = n) (hB : ∀ b ∈ B, b.length = n) : ∀ s ∈ pairL f A B, s.length = n := fun s hs => by
  obtain ⟨a, ha, b, hb, rfl⟩ := mem_pairL.mp hs
  exact hf a b (hA a ha) (hB b hb)
theorem in_app {c : List Int} (hA : ∀ a ∈ A, a.length = n) (hB : ∀ b ∈ B, b.length = n) (hc : c.length = n) : inL (minL (A ++ B)) c = (inL A c || inL B c) := by
  have h : ∀ s ∈ A ++ B, s.length = n := fun s hs => (List.mem_append.mp hs).elim (hA s) (hB s)
  rw [Bool.eq_iff_iff, in_min h hc, Bool.or_eq_true, inL_iff, inL_iff]
  constructor
  · rintro ⟨g, h1, h2⟩
    rcases List.mem_append.mp h1 with h1 | h1
    · exact .inl ⟨g, h1, h2⟩
    · exact .inr ⟨g, h1, h2⟩
  · rintro (⟨g, h1, h2⟩ | ⟨g, h1, h2⟩)
    · exact ⟨g, List.mem_append_left _ h1, h2⟩
    · exact ⟨g, List.mem_append_right _ h1, h2⟩
theorem lenz {f : Int → Int → Int} : ∀ a b : List Int, a.length = n → b.length = n → (List.zipWith f a b).length = n := fun a b ha hb => len_zw ha hb
theorem in_meet {c : List Int} (hA : ∀ a ∈ A, a.length = n) (hB : ∀ b ∈ B, b.length = n) (hc : c.length = n) : inL (minL (pairL lcmL A B)) c = (inL A c && inL B c) := by
  rw [Bool.eq_iff_iff, in_min (len_pm (f := lcmL) (fun a b ha hb => len_zw ha hb) hA hB) hc, Bool.and_eq_true, inL_iff, inL_iff]
  constructor
  · rintro ⟨g, h1, h2⟩
    obtain ⟨a, ha, b, hb, rfl⟩ := mem_pairL.mp h1
    have := (div_lcm_iff (hA a ha) (hB b hb) hc).mp h2
    exact ⟨⟨a, ha, this.1⟩, ⟨b, hb, this.2⟩⟩
  · rintro ⟨⟨a, ha, h1⟩, ⟨b, hb, h2⟩⟩
    exact ⟨lcmL a b, mem_pairL.mpr ⟨a, ha, b, hb, rfl⟩, (div_lcm_iff (hA a ha) (hB b hb) hc).mpr ⟨h1, h2⟩⟩
theorem all_in {L M : List (List Int)} (h : ∀ g ∈ L, inL M g = true) : (L.all fun g => inL M g) = true := List.all_eq_true.mpr h
theorem mul_in_meet (hA : ∀ a ∈ A, Mon n w a) (hB : ∀ b ∈ B, Mon n w b) : ((minL (pairL mulL A B)).all fun g => inL (minL (pairL lcmL A B)) g) = true := all_in fun g hg => by
  have lA : ∀ a ∈ A, a.length = n := fun a ha => (hA a ha).1
  have lB : ∀ a ∈ B, a.length = n := fun a ha => (hB a ha).1
  obtain ⟨a, ha, b, hb, rfl⟩ := mem_pairL.mp (min_sub g hg)
  rw [in_meet lA lB (c := mulL a b) (len_zw (lA a ha) (lB b hb)), inL_iff.mpr ⟨a, ha, div_mul_l (hA a ha) (hB b hb)⟩, inL_iff.mpr ⟨b, hb, div_mul_r (hA a ha) (hB b hb)⟩]
  rfl
theorem meet_in (hA : ∀ a ∈ A, a.length = n) (hB : ∀ b ∈ B, b.length = n) : ((minL (pairL lcmL A B)).all fun g => inL A g) = true := all_in fun g hg => by
  obtain ⟨a, ha, b, hb, rfl⟩ := mem_pairL.mp (min_sub g hg)
  exact inL_iff.mpr ⟨a, ha, div_lcm_l (hA a ha) (hB b hb)⟩
theorem in_both (hA : ∀ a ∈ A, a.length = n) (hB : ∀ b ∈ B, b.length = n) : (B.all fun g => inL (minL (A ++ B)) g) = true := all_in fun g hg => by
  rw [in_app hA hB (hB g hg), inL_iff.mpr ⟨g, hg, divB_refl g⟩]
  exact Bool.or_true _
theorem app_self (hm : minL A = A) (hA : ∀ a ∈ A, a.length = n) : minL (A ++ A) = A :=
  min_self hm hA (fun s hs => (List.mem_append.mp hs).elim (hA s) (hA s)) (fun s hs => ⟨s, (List.mem_append.mp hs).elim id id, divB_refl s⟩) fun a ha => ⟨a, List.mem_append_left _ ha, divB_refl a⟩
theorem app_nil (hm : minL A = A) : minL (A ++ []) = A := by rw [List.append_nil, hm]
theorem meet_self (hm : minL A = A) (hA : ∀ a ∈ A, a.length = n) : minL (pairL lcmL A A) = A :=
  min_self hm hA (len_pm (f := lcmL) (fun a b ha hb => len_zw ha hb) hA hA) (fun s hs => by
    obtain ⟨a, ha, b, hb, rfl⟩ := mem_pairL.mp hs
    exact ⟨a, ha, div_lcm_l (hA a ha) (hA b hb)⟩) fun a ha => ⟨a, mem_pairL.mpr ⟨a, ha, a, ha, lcm_self⟩, divB_refl a⟩
theorem pair_one {f : List Int → List Int → List Int} {z : List Int} (hf : ∀ a ∈ A, f a z = a) : pairL f A [z] = A := by
  unfold pairL
  induction A with
  | nil => rfl
  | cons a A ih => rw [List.flatMap_cons, ih fun x hx => hf x (List.mem_cons_of_mem _ hx), List.map_cons, hf a List.mem_cons_self]; rfl
theorem meet_one (hm : minL A = A) (hA : ∀ a ∈ A, Mon n w a) : minL (pairL lcmL A [List.replicate n 0]) = A := by
  rw [pair_one fun a ha => lcm_zero (hA a ha), hm]
theorem mul_one (hm : minL A = A) (hA : ∀ a ∈ A, a.length = n) : minL (pairL mulL A [List.replicate n 0]) = A := by
  rw [pair_one fun a ha => mul_zero (hA a ha), hm]
theorem mul_none : minL (pairL mulL A []) = [] := by
  have : pairL mulL A [] = [] := by
    unfold pairL
    induction A with
    | nil => rfl
    | cons a A ih => rw [List.flatMap_cons, ih]; rfl
  rw [this]
  rfl
theorem min_nil : minL [] = [] := rfl
theorem min_one (z : List Int) : minL [z] = [z] := by
  simp [minL, sortU, insU]
theorem Idl.len {cnt : Nat} (h : Idl n w cnt A) : ∀ a ∈ A, a.length = n := fun a ha => (h.2.2 a ha).1
theorem ok_app {c1 c2 : Nat} (hn : 1 ≤ n) (hn2 : n ≤ 1000) (hw : w ≤ 60) (hA : Idl n w c1 A) (hB : Idl n w c2 B) (h : c1 + c2 ≤ 60) : OkS n 60 (A ++ B) ∧ (minL (A ++ B)).length ≤ 60 := by
  have h1 := hA.2.1
  have h2 := hB.2.1
  refine ⟨⟨hn, hn2, by rw [List.length_append]; omega, fun t ht => ?_⟩, Nat.le_trans (min_len _) (by rw [List.length_append]; omega)⟩
  rcases List.mem_append.mp ht with ht | ht
  · exact (hA.2.2 t ht).mono hw
  · exact (hB.2.2 t ht).mono hw
theorem ok_pair {f : List Int → List Int → List Int} {c1 c2 : Nat} (hn : 1 ≤ n) (hn2 : n ≤ 1000) (hf : ∀ a b, Mon n w a → Mon n w b → Mon n 60 (f a b)) (hA : Idl n w c1 A) (hB : Idl n w c2 B) (h : c1 * c2 ≤ 60) : OkS n 60 (pairL f A B) ∧ (minL (pairL f A B)).length ≤ 60 := by
  have h1 : A.length * B.length ≤ c1 * c2 := Nat.mul_le_mul hA.2.1 hB.2.1
  refine ⟨⟨hn, hn2, by rw [len_pairL]; omega, fun t ht => ?_⟩, Nat.le_trans (min_len _) (by rw [len_pairL]; omega)⟩
  obtain ⟨a, ha, b, hb, rfl⟩ := mem_pairL.mp ht
  exact hf a b (hA.2.2 a ha) (hB.2.2 b hb)
end
theorem eqv_idl (n m : Int) (X Y : List (List Int)) : PyData.eqv (.tuple [.int n, TT X]) (.tuple [.int m, TT Y]) = (decide (n = m) && decide (X = Y)) := by
  rw [PyData.eqv, PyData.eqvAll, PyData.eqvAll, PyData.eqvAll, eqv_int, eqv_TT, Bool.and_true]
theorem shaped_idl (n : Int) (X : List (List Int)) : SeqAt.shaped (.tuple [.int n, TT X]) = true := (sh_tuple (n := 3) (l := [.int n, TT X]) fun x hx => by
  simp only [List.mem_cons, List.not_mem_nil, or_false] at hx
  rcases hx with rfl | rfl
  · exact sh_int
  · exact sh_TT).mono (by omega) |>.shaped
end UC
end

section
set_option linter.all false
set_option maxRecDepth 100000
set_option maxHeartbeats 1000000
namespace UC
open PySem L2 DL RD
/-! ideals are told by what they hold -/
theorem red_ext {X Y : List (List Int)} {n : Nat} (hX : minL X = X) (hY : minL Y = Y) (lX : ∀ a ∈ X, a.length = n) (lY : ∀ a ∈ Y, a.length = n) (h : ∀ c : List Int, c.length = n → inL X c = inL Y c) : X = Y := by
  rw [← hX, ← hY]
  refine min_cong lX lY (fun s hs => ?_) fun s hs => ?_
  · have := h s (lX s hs)
    rw [inL_iff.mpr ⟨s, hs, divB_refl s⟩] at this
    exact inL_iff.mp this.symm
  · have := h s (lY s hs)
    rw [inL_iff.mpr ⟨s, hs, divB_refl s⟩] at this
    exact inL_iff.mp this
theorem min_ext {S T : List (List Int)} {n : Nat} (lS : ∀ a ∈ S, a.length = n) (lT : ∀ a ∈ T, a.length = n) (h : ∀ c : List Int, c.length = n → (inL (minL S) c = true ↔ inL (minL T) c = true)) : minL S = minL T :=
  red_ext (min_idem lS) (min_idem lT) (fun a ha => lS a (min_sub a ha)) (fun a ha => lT a (min_sub a ha)) fun c hc => Bool.eq_iff_iff.mpr (h c hc)
theorem min_lens {S : List (List Int)} {n : Nat} (h : ∀ a ∈ S, a.length = n) : ∀ a ∈ minL S, a.length = n := fun a ha => h a (min_sub a ha)
theorem app_lens {A B : List (List Int)} {n : Nat} (hA : ∀ a ∈ A, a.length = n) (hB : ∀ a ∈ B, a.length = n) : ∀ a ∈ A ++ B, a.length = n := fun a ha => (List.mem_append.mp ha).elim (hA a) (hB a)
theorem lcm_lens {A B : List (List Int)} {n : Nat} (hA : ∀ a ∈ A, a.length = n) (hB : ∀ a ∈ B, a.length = n) : ∀ a ∈ pairL lcmL A B, a.length = n := len_pm (fun a b ha hb => len_zw ha hb) hA hB
theorem mul_lens {A B : List (List Int)} {n : Nat} (hA : ∀ a ∈ A, a.length = n) (hB : ∀ a ∈ B, a.length = n) : ∀ a ∈ pairL mulL A B, a.length = n := len_pm (fun a b ha hb => len_zw ha hb) hA hB
theorem div_mul2 {a b a' b' : List Int} {n : Nat} (ha : a.length = n) (hb : b.length = n) (ha' : a'.length = n) (hb' : b'.length = n) (h1 : divB a a' = true) (h2 : divB b b' = true) : divB (mulL a b) (mulL a' b') = true := by
  unfold mulL
  rw [divB_iff (len_zw ha hb) (len_zw ha' hb')]
  intro j hj
  rw [gd_zw ha hb hj, gd_zw ha' hb' hj]
  have := (divB_iff ha ha').mp h1 j hj
  have := (divB_iff hb hb').mp h2 j hj
  omega
theorem mul_assoc {a b c : List Int} {n : Nat} (ha : a.length = n) (hb : b.length = n) (hc : c.length = n) : mulL a (mulL b c) = mulL (mulL a b) c := by
  unfold mulL
  rw [gd_ext (len_zw ha (len_zw hb hc)) (len_zw (len_zw ha hb) hc)]
  intro j hj
  rw [gd_zw ha (len_zw hb hc) hj, gd_zw hb hc hj, gd_zw (len_zw ha hb) hc hj, gd_zw ha hb hj]
  omega
/-- what a product holds, its factors reduced or not -/
theorem in_prod {S T : List (List Int)} {n : Nat} {c : List Int} (hS : ∀ a ∈ S, a.length = n) (hT : ∀ a ∈ T, a.length = n) (hc : c.length = n) : inL (minL (pairL mulL (minL S) (minL T))) c = true ↔ ∃ a ∈ S, ∃ b ∈ T, divB (mulL a b) c = true := by
  rw [in_min (mul_lens (min_lens hS) (min_lens hT)) hc]
  constructor
  · rintro ⟨g, hg, h⟩
    obtain ⟨a, ha, b, hb, rfl⟩ := mem_pairL.mp hg
    exact ⟨a, min_sub a ha, b, min_sub b hb, h⟩
  · rintro ⟨a, ha, b, hb, h⟩
    obtain ⟨a', ha', h1⟩ := (mins_minL hS).cov a ha
    obtain ⟨b', hb', h2⟩ := (mins_minL hT).cov b hb
    have la' := hS a' (min_sub a' ha')
    have lb' := hT b' (min_sub b' hb')
    exact ⟨mulL a' b', mem_pairL.mpr ⟨a', ha', b', hb', rfl⟩, divB_trans (len_zw la' lb') (len_zw (hS a ha) (hT b hb)) hc (div_mul2 la' lb' (hS a ha) (hT b hb) h1 h2) h⟩
/-- an antichain of at most three variables, exponents at most w -/
theorem anti_len {X : List (List Int)} {n w : Nat} (hX : minL X = X) (hm : ∀ a ∈ X, Mon n w a) (hn : n ≤ 3) : X.length ≤ (w + 1) * (w + 1) := by
  have lX : ∀ a ∈ X, a.length = n := fun a ha => (hm a ha).1
  have M := mins_minL lX
  rw [hX] at M
  have hb : ∀ a ∈ X, ∀ j, 0 ≤ gd a j ∧ gd a j ≤ w := fun a ha j => by
    by_cases h : j < a.length
    · exact (hm a ha).2 _ (gd_mem h)
    · have : gd a j = 0 := by
        unfold gd
        rw [List.getD_eq_getElem?_getD, List.getElem?_eq_none (by omega)]
        rfl
      omega
  let f : List Int → Nat := fun a => (gd a 0).toNat * (w + 1) + (gd a 1).toNat
  have inj : ∀ a ∈ X, ∀ b ∈ X, f a = f b → a = b := by
    intro a ha b hb' e
    have a0 := hb a ha 0
    have a1 := hb a ha 1
    have b0 := hb b hb' 0
    have b1 := hb b hb' 1
    have e1 : (gd a 0).toNat = (gd b 0).toNat ∧ (gd a 1).toNat = (gd b 1).toNat := by
      have h1 : (gd a 1).toNat < w + 1 := by omega
      have h2 : (gd b 1).toNat < w + 1 := by omega
      have q1 := congrArg (· / (w + 1)) e
      have q2 := congrArg (· % (w + 1)) e
      simp only [f, Nat.mul_comm _ (w + 1)] at q1 q2
      rw [Nat.mul_add_div (by omega), Nat.mul_add_div (by omega), Nat.div_eq_of_lt h1, Nat.div_eq_of_lt h2] at q1
      rw [Nat.mul_add_mod, Nat.mul_add_mod, Nat.mod_eq_of_lt h1, Nat.mod_eq_of_lt h2] at q2
      exact ⟨by simpa using q1, q2⟩
    have c0 : gd a 0 = gd b 0 := by omega
    have c1 : gd a 1 = gd b 1 := by omega
    by_cases h : gd a 2 ≤ gd b 2
    · refine M.anti a ha b hb' ((divB_iff (lX a ha) (lX b hb')).mpr fun j hj => ?_)
      have : j = 0 ∨ j = 1 ∨ j = 2 := by omega
      rcases this with rfl | rfl | rfl <;> omega
    · refine (M.anti b hb' a ha ((divB_iff (lX b hb') (lX a ha)).mpr fun j hj => ?_)).symm
      have : j = 0 ∨ j = 1 ∨ j = 2 := by omega
      rcases this with rfl | rfl | rfl <;> omega
  have nd : X.Nodup := List.Pairwise.imp (fun h e => by rw [e, lexL_irr] at h; cases h) M.ris
  have nf : (X.map f).Nodup := List.pairwise_map.mpr (List.Pairwise.imp_of_mem (fun ha hb' hne e => hne (inj _ ha _ hb' e)) nd)
  have := L2.nat_nodup_len (X.map f) (List.range ((w + 1) * (w + 1))) nf fun x hx => by
    obtain ⟨a, ha, rfl⟩ := List.mem_map.mp hx
    have a0 := hb a ha 0
    have a1 := hb a ha 1
    have h1 : (gd a 0).toNat * (w + 1) ≤ w * (w + 1) := Nat.mul_le_mul_right _ (by omega)
    refine List.mem_range.mpr ?_
    show (gd a 0).toNat * (w + 1) + (gd a 1).toNat < (w + 1) * (w + 1)
    rw [Nat.add_mul, Nat.one_mul]
    omega
  rw [List.length_map, List.length_range] at this
  exact this
section
variable {n : Nat} {A B C : List (List Int)}
theorem dist_meet (lA : ∀ a ∈ A, a.length = n) (lB : ∀ a ∈ B, a.length = n) (lC : ∀ a ∈ C, a.length = n) : minL (pairL lcmL A (minL (B ++ C))) = minL (minL (pairL lcmL A B) ++ minL (pairL lcmL A C)) :=
  min_ext (lcm_lens lA (min_lens (app_lens lB lC))) (app_lens (min_lens (lcm_lens lA lB)) (min_lens (lcm_lens lA lC))) fun c hc => by
    rw [in_meet lA (min_lens (app_lens lB lC)) hc, in_app lB lC hc, in_app (min_lens (lcm_lens lA lB)) (min_lens (lcm_lens lA lC)) hc, in_meet lA lB hc, in_meet lA lC hc]
    cases inL A c <;> cases inL B c <;> cases inL C c <;> simp
theorem dist_sum (lA : ∀ a ∈ A, a.length = n) (lB : ∀ a ∈ B, a.length = n) (lC : ∀ a ∈ C, a.length = n) : minL (A ++ minL (pairL lcmL B C)) = minL (pairL lcmL (minL (A ++ B)) (minL (A ++ C))) :=
  min_ext (app_lens lA (min_lens (lcm_lens lB lC))) (lcm_lens (min_lens (app_lens lA lB)) (min_lens (app_lens lA lC))) fun c hc => by
    rw [in_app lA (min_lens (lcm_lens lB lC)) hc, in_meet lB lC hc, in_meet (min_lens (app_lens lA lB)) (min_lens (app_lens lA lC)) hc, in_app lA lB hc, in_app lA lC hc]
    cases inL A c <;> cases inL B c <;> cases inL C c <;> simp
theorem assoc_meet (lA : ∀ a ∈ A, a.length = n) (lB : ∀ a ∈ B, a.length = n) (lC : ∀ a ∈ C, a.length = n) : minL (pairL lcmL A (minL (pairL lcmL B C))) = minL (pairL lcmL (minL (pairL lcmL A B)) C) :=
  min_ext (lcm_lens lA (min_lens (lcm_lens lB lC))) (lcm_lens (min_lens (lcm_lens lA lB)) lC) fun c hc => by
    rw [in_meet lA (min_lens (lcm_lens lB lC)) hc, in_meet lB lC hc, in_meet (min_lens (lcm_lens lA lB)) lC hc, in_meet lA lB hc]
    cases inL A c <;> cases inL B c <;> cases inL C c <;> simp
theorem assoc_sum (lA : ∀ a ∈ A, a.length = n) (lB : ∀ a ∈ B, a.length = n) (lC : ∀ a ∈ C, a.length = n) : minL (A ++ minL (B ++ C)) = minL (minL (A ++ B) ++ C) :=
  min_ext (app_lens lA (min_lens (app_lens lB lC))) (app_lens (min_lens (app_lens lA lB)) lC) fun c hc => by
    rw [in_app lA (min_lens (app_lens lB lC)) hc, in_app lB lC hc, in_app (min_lens (app_lens lA lB)) lC hc, in_app lA lB hc]
    cases inL A c <;> cases inL B c <;> cases inL C c <;> simp
theorem dist_mul (mA : minL A = A) (mB : minL B = B) (mC : minL C = C) (lA : ∀ a ∈ A, a.length = n) (lB : ∀ a ∈ B, a.length = n) (lC : ∀ a ∈ C, a.length = n) : minL (pairL mulL A (minL (B ++ C))) = minL (minL (pairL mulL A B) ++ minL (pairL mulL A C)) :=
  min_ext (mul_lens lA (min_lens (app_lens lB lC))) (app_lens (min_lens (mul_lens lA lB)) (min_lens (mul_lens lA lC))) fun c hc => by
    have p1 := in_prod (S := A) (T := B ++ C) lA (app_lens lB lC) hc
    have p2 := in_prod (S := A) (T := B) lA lB hc
    have p3 := in_prod (S := A) (T := C) lA lC hc
    rw [mA] at p1 p2 p3
    rw [mB] at p2
    rw [mC] at p3
    rw [p1, in_app (min_lens (mul_lens lA lB)) (min_lens (mul_lens lA lC)) hc, Bool.or_eq_true, p2, p3]
    constructor
    · rintro ⟨a, ha, b, hb, h⟩
      rcases List.mem_append.mp hb with hb | hb
      · exact .inl ⟨a, ha, b, hb, h⟩
      · exact .inr ⟨a, ha, b, hb, h⟩
    · rintro (⟨a, ha, b, hb, h⟩ | ⟨a, ha, b, hb, h⟩)
      · exact ⟨a, ha, b, List.mem_append_left _ hb, h⟩
      · exact ⟨a, ha, b, List.mem_append_right _ hb, h⟩
theorem assoc_mul (mA : minL A = A) (mC : minL C = C) (lA : ∀ a ∈ A, a.length = n) (lB : ∀ a ∈ B, a.length = n) (lC : ∀ a ∈ C, a.length = n) : minL (pairL mulL A (minL (pairL mulL B C))) = minL (pairL mulL (minL (pairL mulL A B)) C) :=
  min_ext (mul_lens lA (min_lens (mul_lens lB lC))) (mul_lens (min_lens (mul_lens lA lB)) lC) fun c hc => by
    have p1 := in_prod (S := A) (T := pairL mulL B C) lA (mul_lens lB lC) hc
    have p2 := in_prod (S := pairL mulL A B) (T := C) (mul_lens lA lB) lC hc
    rw [mA] at p1
    rw [mC] at p2
    rw [p1, p2]
    constructor
    · rintro ⟨a, ha, g, hg, h⟩
      obtain ⟨b, hb, x, hx, rfl⟩ := mem_pairL.mp hg
      exact ⟨mulL a b, mem_pairL.mpr ⟨a, ha, b, hb, rfl⟩, x, hx, by rw [← mul_assoc (lA a ha) (lB b hb) (lC x hx)]; exact h⟩
    · rintro ⟨g, hg, x, hx, h⟩
      obtain ⟨a, ha, b, hb, rfl⟩ := mem_pairL.mp hg
      exact ⟨a, ha, mulL b x, mem_pairL.mpr ⟨b, hb, x, hx, rfl⟩, by rw [mul_assoc (lA a ha) (lB b hb) (lC x hx)]; exact h⟩
end
section
variable {n : Nat} {w : Int} {A B : List (List Int)}
theorem mul_meet_sum (mA : minL A = A) (mB : minL B = B) (lA : ∀ a ∈ A, a.length = n) (lB : ∀ a ∈ B, a.length = n) : ((minL (pairL mulL (minL (pairL lcmL A B)) (minL (A ++ B)))).all fun g => inL (minL (pairL mulL A B)) g) = true := all_in fun g hg => by
  obtain ⟨x, hx, y, hy, rfl⟩ := mem_pairL.mp (min_sub g hg)
  obtain ⟨a, ha, b, hb, rfl⟩ := mem_pairL.mp (min_sub x hx)
  have la := lA a ha
  have lb := lB b hb
  have ll : (lcmL a b).length = n := len_zw la lb
  have ly : y.length = n := app_lens lA lB y (min_sub y hy)
  have p := in_prod (S := A) (T := B) (c := mulL (lcmL a b) y) lA lB (len_zw ll ly)
  rw [mA, mB] at p
  rw [p]
  rcases List.mem_append.mp (min_sub y hy) with h | h
  · refine ⟨y, h, b, hb, ?_⟩
    rw [mul_comm ly lb]
    exact div_mul2 lb ly ll ly (div_lcm_r la lb) (divB_refl y)
  · exact ⟨a, ha, y, h, div_mul2 la ly ll ly (div_lcm_l la lb) (divB_refl y)⟩
theorem inside_sum (mB : minL B = B) (lA : ∀ a ∈ A, a.length = n) (lB : ∀ a ∈ B, a.length = n) : (A.all fun g => inL B g) = decide (minL (A ++ B) = B) := bool_dec <| by
  rw [List.all_eq_true]
  constructor
  · intro h
    refine min_self mB lB (app_lens lA lB) (fun s hs => ?_) fun a ha => ⟨a, List.mem_append_right _ ha, divB_refl a⟩
    rcases List.mem_append.mp hs with hs | hs
    · exact inL_iff.mp (h s hs)
    · exact ⟨s, hs, divB_refl s⟩
  · intro h a ha
    rw [← h, in_app lA lB (lA a ha), inL_iff.mpr ⟨a, ha, divB_refl a⟩]
    rfl
theorem inside_meet (mA : minL A = A) (lA : ∀ a ∈ A, a.length = n) (lB : ∀ a ∈ B, a.length = n) : (A.all fun g => inL B g) = decide (minL (pairL lcmL A B) = A) := bool_dec <| by
  rw [List.all_eq_true]
  constructor
  · intro h
    refine red_ext (min_idem (lcm_lens lA lB)) mA (min_lens (lcm_lens lA lB)) lA fun c hc => ?_
    rw [in_meet lA lB hc]
    cases e : inL A c with
    | false => rfl
    | true =>
      obtain ⟨a, ha, hd⟩ := inL_iff.mp e
      obtain ⟨b, hb, hd2⟩ := inL_iff.mp (h a ha)
      rw [inL_iff.mpr ⟨b, hb, divB_trans (lB b hb) (lA a ha) hc hd2 hd⟩]
      rfl
  · intro h a ha
    have e := in_meet lA lB (lA a ha)
    rw [h, inL_iff.mpr ⟨a, ha, divB_refl a⟩] at e
    simpa using e.symm
end
section
variable {n : Nat} {w : Int} {A B : List (List Int)}
theorem Idl.mono {c : Nat} {v : Int} {d : Nat} (h : Idl n w c A) (hw : w ≤ v) (hc : c ≤ d) : Idl n v d A := ⟨h.1, Nat.le_trans h.2.1 hc, fun t ht => (h.2.2 t ht).mono hw⟩
theorem idl_app {c1 c2 : Nat} (hA : Idl n w c1 A) (hB : Idl n w c2 B) : Idl n w (c1 + c2) (minL (A ++ B)) :=
  ⟨min_idem (app_lens hA.len hB.len), Nat.le_trans (min_len _) (by rw [List.length_append]; exact Nat.add_le_add hA.2.1 hB.2.1), fun t ht => (List.mem_append.mp (min_sub t ht)).elim (hA.2.2 t) (hB.2.2 t)⟩
theorem idl_meet {c1 c2 : Nat} (hA : Idl n w c1 A) (hB : Idl n w c2 B) : Idl n w (c1 * c2) (minL (pairL lcmL A B)) :=
  ⟨min_idem (lcm_lens hA.len hB.len), Nat.le_trans (min_len _) (by rw [len_pairL]; exact Nat.mul_le_mul hA.2.1 hB.2.1), fun t ht => by
    obtain ⟨a, ha, b, hb, rfl⟩ := mem_pairL.mp (min_sub t ht)
    exact mon_lcm (hA.2.2 a ha) (hB.2.2 b hb)⟩
theorem idl_mul {c1 c2 : Nat} (hA : Idl n w c1 A) (hB : Idl n w c2 B) : Idl n (2 * w) (c1 * c2) (minL (pairL mulL A B)) :=
  ⟨min_idem (mul_lens hA.len hB.len), Nat.le_trans (min_len _) (by rw [len_pairL]; exact Nat.mul_le_mul hA.2.1 hB.2.1), fun t ht => by
    obtain ⟨a, ha, b, hb, rfl⟩ := mem_pairL.mp (min_sub t ht)
    exact mon_mul (hA.2.2 a ha) (hB.2.2 b hb)⟩
/-- the sum's call -/
theorem go_sum {c1 c2 : Nat} {st : Sto} {Q : DV → Sto → Prop} (hn : 1 ≤ n) (hn2 : n ≤ 1000) (hw : w ≤ 60) (hA : Idl n w c1 A) (hB : Idl n w c2 B) (h : c1 + c2 ≤ 60) (k : Q (.d (idl n (minL (A ++ B)))) st) : sp_sum_of [.d (idl n A), .d (idl n B)] st Q := by
  obtain ⟨o, c⟩ := ok_app hn hn2 hw hA hB h
  have := hA.2.1
  have := hB.2.1
  exact ⟨A, B, n, rfl, o, c, by omega, by omega, fun a ha => by rw [hA.len a ha]; exact hn2, k⟩
theorem go_meet {c1 c2 : Nat} {st : Sto} {Q : DV → Sto → Prop} (hn : 1 ≤ n) (hn2 : n ≤ 1000) (hw : w ≤ 60) (hA : Idl n w c1 A) (hB : Idl n w c2 B) (h : c1 * c2 ≤ 60) (h1 : c1 ≤ 60) (h2 : c2 ≤ 60) (k : Q (.d (idl n (minL (pairL lcmL A B)))) st) : sp_meet_of [.d (idl n A), .d (idl n B)] st Q := by
  obtain ⟨o, c⟩ := ok_pair (f := lcmL) hn hn2 (fun a b ha hb => (mon_lcm ha hb).mono hw) hA hB h
  have := hA.2.1
  have := hB.2.1
  exact ⟨A, B, n, rfl, o, c, by omega, by omega, fun a ha => by rw [hA.len a ha]; exact hn2, k⟩
theorem go_mul {c1 c2 : Nat} {st : Sto} {Q : DV → Sto → Prop} (hn : 1 ≤ n) (hn2 : n ≤ 1000) (hw : 2 * w ≤ 60) (hA : Idl n w c1 A) (hB : Idl n w c2 B) (h : c1 * c2 ≤ 60) (h1 : c1 ≤ 60) (h2 : c2 ≤ 60) (k : Q (.d (idl n (minL (pairL mulL A B)))) st) : sp_product_of [.d (idl n A), .d (idl n B)] st Q := by
  obtain ⟨o, c⟩ := ok_pair (f := mulL) hn hn2 (fun a b ha hb => (mon_mul ha hb).mono hw) hA hB h
  have := hA.2.1
  have := hB.2.1
  exact ⟨A, B, n, rfl, o, c, by omega, by omega, fun a ha => by rw [hA.len a ha]; exact hn2, k⟩
/-- the same, the antichain's bound asked -/
theorem go_mulA {c1 c2 : Nat} {v : Nat} {st : Sto} {Q : DV → Sto → Prop} (hn : 1 ≤ n) (hn3 : n ≤ 3) (hv : 2 * w ≤ v) (hv2 : v ≤ 6) (hA : Idl n w c1 A) (hB : Idl n w c2 B) (h : c1 * c2 ≤ 1000) (h1 : c1 ≤ 60) (h2 : c2 ≤ 60) (k : Q (.d (idl n (minL (pairL mulL A B)))) st) : sp_product_of [.d (idl n A), .d (idl n B)] st Q := by
  have hl : (pairL mulL A B).length ≤ c1 * c2 := by rw [len_pairL]; exact Nat.mul_le_mul hA.2.1 hB.2.1
  have hm : ∀ t ∈ pairL mulL A B, Mon n (2 * w) t := fun t ht => by
    obtain ⟨a, ha, b, hb, rfl⟩ := mem_pairL.mp ht
    exact mon_mul (hA.2.2 a ha) (hB.2.2 b hb)
  have hc := anti_len (w := v) (n := n) (min_idem (mul_lens hA.len hB.len)) (fun t ht => (hm t (min_sub t ht)).mono hv) hn3
  have hsq : (v + 1) * (v + 1) ≤ 7 * 7 := Nat.mul_le_mul (by omega) (by omega)
  have := hA.2.1
  have := hB.2.1
  exact ⟨A, B, n, rfl, ⟨hn, by omega, by omega, fun t ht => (hm t ht).mono (by omega)⟩, by omega, by omega, by omega, fun a ha => by rw [hA.len a ha]; omega, k⟩
end
end UC
end

section
set_option linter.all false
set_option maxRecDepth 100000
set_option maxHeartbeats 1000000
namespace UC
open PySem L2 DL RD
/-! colons, plain: what they hold, told at monomials without negative exponents -/
def NN (n : Nat) (c : List Int) : Prop := c.length = n ∧ ∀ x ∈ c, 0 ≤ x
theorem Mon.nn {n : Nat} {w : Int} {a : List Int} (h : Mon n w a) : NN n a := ⟨h.1, fun x hx => (h.2 x hx).1⟩
theorem NN.at {n : Nat} {c : List Int} (h : NN n c) {j : Nat} (hj : j < n) : 0 ≤ gd c j := h.2 _ (gd_mem (by rw [h.1]; exact hj))
theorem nn_mul {n : Nat} {a b : List Int} (ha : NN n a) (hb : NN n b) : NN n (mulL a b) := by
  refine ⟨len_zw ha.1 hb.1, fun x hx => ?_⟩
  unfold mulL at hx
  rw [← range_zw ha.1 hb.1] at hx
  obtain ⟨j, hj, rfl⟩ := List.mem_map.mp hx
  rw [List.mem_range] at hj
  have h1 := ha.at hj
  have h2 := hb.at hj
  omega
theorem red_extN {X Y : List (List Int)} {n : Nat} (hX : minL X = X) (hY : minL Y = Y) (lX : ∀ a ∈ X, NN n a) (lY : ∀ a ∈ Y, NN n a) (h : ∀ c : List Int, NN n c → (inL X c = true ↔ inL Y c = true)) : X = Y := by
  rw [← hX, ← hY]
  refine min_cong (fun a ha => (lX a ha).1) (fun a ha => (lY a ha).1) (fun s hs => ?_) fun s hs => ?_
  · exact inL_iff.mp ((h s (lX s hs)).mp (inL_iff.mpr ⟨s, hs, divB_refl s⟩))
  · exact inL_iff.mp ((h s (lY s hs)).mpr (inL_iff.mpr ⟨s, hs, divB_refl s⟩))
theorem div_cut_iff {a f c : List Int} {n : Nat} (ha : a.length = n) (hf : f.length = n) (hc : NN n c) : divB (cutL a f) c = true ↔ divB a (mulL c f) = true := by
  unfold cutL mulL
  rw [divB_iff (len_zw ha hf) hc.1, divB_iff ha (len_zw hc.1 hf)]
  constructor
  · intro h j hj
    have := h j hj
    rw [gd_zw ha hf hj] at this
    rw [gd_zw hc.1 hf hj]
    omega
  · intro h j hj
    have := h j hj
    rw [gd_zw hc.1 hf hj] at this
    rw [gd_zw ha hf hj]
    have := hc.at hj
    omega
theorem in_colon_by {A : List (List Int)} {f c : List Int} {n : Nat} (hA : ∀ a ∈ A, a.length = n) (hf : f.length = n) (hc : NN n c) : inL (minL (A.map fun a => cutL a f)) c = true ↔ inL A (mulL c f) = true := by
  rw [in_min (n := n) (fun s hs => by
    obtain ⟨a, ha, rfl⟩ := List.mem_map.mp hs
    exact len_zw (hA a ha) hf) hc.1, inL_iff]
  constructor
  · rintro ⟨g, hg, h⟩
    obtain ⟨a, ha, rfl⟩ := List.mem_map.mp hg
    exact ⟨a, ha, (div_cut_iff (hA a ha) hf hc).mp h⟩
  · rintro ⟨a, ha, h⟩
    exact ⟨_, List.mem_map.mpr ⟨a, ha, rfl⟩, (div_cut_iff (hA a ha) hf hc).mpr h⟩
end UC
end

section
set_option linter.all false
set_option maxRecDepth 100000
set_option maxHeartbeats 1000000
namespace UC
open PySem L2 DL RD
theorem lenLcm {a b : List Int} {n : Nat} (ha : a.length = n) (hb : b.length = n) : (lcmL a b).length = n := len_zw ha hb
theorem lenMul {a b : List Int} {n : Nat} (ha : a.length = n) (hb : b.length = n) : (mulL a b).length = n := len_zw ha hb
theorem lenCut {a b : List Int} {n : Nat} (ha : a.length = n) (hb : b.length = n) : (cutL a b).length = n := len_zw ha hb
/-! images of ideals under maps that keep what divides -/
structure Keeps (n : Nat) (h : List Int → List Int) : Prop where
  nn : ∀ a, NN n a → NN n (h a)
  mono : ∀ a b, NN n a → NN n b → divB a b = true → divB (h a) (h b) = true
abbrev NNs (n : Nat) (A : List (List Int)) : Prop := ∀ a ∈ A, NN n a
theorem NNs.len {n : Nat} {A : List (List Int)} (h : NNs n A) : ∀ a ∈ A, a.length = n := fun a ha => (h a ha).1
theorem NNs.min {n : Nat} {A : List (List Int)} (h : NNs n A) : NNs n (minL A) := fun a ha => h a (min_sub a ha)
theorem NNs.app {n : Nat} {A B : List (List Int)} (h : NNs n A) (k : NNs n B) : NNs n (A ++ B) := fun a ha => (List.mem_append.mp ha).elim (h a) (k a)
theorem NNs.map {n : Nat} {A : List (List Int)} {f : List Int → List Int} (kf : Keeps n f) (h : NNs n A) : NNs n (A.map f) := fun a ha => by
  obtain ⟨b, hb, rfl⟩ := List.mem_map.mp ha
  exact kf.nn b (h b hb)
theorem nn_lcm {n : Nat} {a b : List Int} (ha : NN n a) (hb : NN n b) : NN n (lcmL a b) := by
  refine ⟨len_zw ha.1 hb.1, fun x hx => ?_⟩
  unfold lcmL at hx
  rw [← range_zw ha.1 hb.1] at hx
  obtain ⟨j, hj, rfl⟩ := List.mem_map.mp hx
  rw [List.mem_range] at hj
  have h1 := ha.at hj
  have h2 := hb.at hj
  omega
theorem nn_cut {n : Nat} {a b : List Int} (ha : NN n a) (hb : NN n b) : NN n (cutL a b) := by
  refine ⟨len_zw ha.1 hb.1, fun x hx => ?_⟩
  unfold cutL at hx
  rw [← range_zw ha.1 hb.1] at hx
  obtain ⟨j, hj, rfl⟩ := List.mem_map.mp hx
  omega
theorem NNs.lcm {n : Nat} {A B : List (List Int)} (h : NNs n A) (k : NNs n B) : NNs n (pairL lcmL A B) := fun a ha => by
  obtain ⟨x, hx, y, hy, rfl⟩ := mem_pairL.mp ha
  exact nn_lcm (h x hx) (k y hy)
theorem NNs.mul {n : Nat} {A B : List (List Int)} (h : NNs n A) (k : NNs n B) : NNs n (pairL mulL A B) := fun a ha => by
  obtain ⟨x, hx, y, hy, rfl⟩ := mem_pairL.mp ha
  exact nn_mul (h x hx) (k y hy)
theorem Idl.nns {n : Nat} {w : Int} {c : Nat} {A : List (List Int)} (h : Idl n w c A) : NNs n A := fun a ha => (h.2.2 a ha).nn
section
variable {n : Nat} {A B C : List (List Int)} {h : List Int → List Int}
theorem img_sum (kh : Keeps n h) (lA : NNs n A) (lB : NNs n B) : minL ((minL (A ++ B)).map h) = minL (minL (A.map h) ++ minL (B.map h)) := by
  have lAB := lA.app lB
  have hA := lA.map kh
  have hB := lB.map kh
  refine min_cong (lAB.min.map kh).len (hA.min.app hB.min).len (fun s hs => ?_) fun s hs => ?_
  · obtain ⟨x, hx, rfl⟩ := List.mem_map.mp hs
    rcases List.mem_append.mp (min_sub x hx) with z | z
    · obtain ⟨r, h1, h2⟩ := (mins_minL hA.len).cov (h x) (List.mem_map.mpr ⟨x, z, rfl⟩)
      exact ⟨r, List.mem_append_left _ h1, h2⟩
    · obtain ⟨r, h1, h2⟩ := (mins_minL hB.len).cov (h x) (List.mem_map.mpr ⟨x, z, rfl⟩)
      exact ⟨r, List.mem_append_right _ h1, h2⟩
  · have : ∃ x ∈ A ++ B, h x = s := by
      rcases List.mem_append.mp hs with z | z
      · obtain ⟨x, hx, e⟩ := List.mem_map.mp (min_sub s z)
        exact ⟨x, List.mem_append_left _ hx, e⟩
      · obtain ⟨x, hx, e⟩ := List.mem_map.mp (min_sub s z)
        exact ⟨x, List.mem_append_right _ hx, e⟩
    obtain ⟨x, hx, rfl⟩ := this
    obtain ⟨r, h1, h2⟩ := (mins_minL lAB.len).cov x hx
    exact ⟨h r, List.mem_map.mpr ⟨r, h1, rfl⟩, kh.mono r x (lAB.min r h1) (lAB x hx) h2⟩
theorem img_pair {f : List Int → List Int → List Int} (kh : Keeps n h) (hf : ∀ a b, NN n a → NN n b → NN n (f a b)) (he : ∀ a b, NN n a → NN n b → h (f a b) = lcmL (h a) (h b)) (lA : NNs n A) (lB : NNs n B) : minL ((minL (pairL f A B)).map h) = minL (pairL lcmL (minL (A.map h)) (minL (B.map h))) := by
  have lP : NNs n (pairL f A B) := fun a ha => by
    obtain ⟨x, hx, y, hy, rfl⟩ := mem_pairL.mp ha
    exact hf x y (lA x hx) (lB y hy)
  have hA := lA.map kh
  have hB := lB.map kh
  refine min_cong (lP.min.map kh).len (hA.min.lcm hB.min).len (fun s hs => ?_) fun s hs => ?_
  · obtain ⟨x, hx, rfl⟩ := List.mem_map.mp hs
    obtain ⟨a, ha, b, hb, rfl⟩ := mem_pairL.mp (min_sub x hx)
    obtain ⟨r, h1, h2⟩ := (mins_minL hA.len).cov (h a) (List.mem_map.mpr ⟨a, ha, rfl⟩)
    obtain ⟨q, h3, h4⟩ := (mins_minL hB.len).cov (h b) (List.mem_map.mpr ⟨b, hb, rfl⟩)
    have na := (kh.nn a (lA a ha)).1
    have nb := (kh.nn b (lB b hb)).1
    have nr := (hA.min r h1).1
    have nq := (hB.min q h3).1
    refine ⟨lcmL r q, mem_pairL.mpr ⟨r, h1, q, h3, rfl⟩, ?_⟩
    have ll : (lcmL (h a) (h b)).length = n := len_zw na nb
    rw [he a b (lA a ha) (lB b hb), div_lcm_iff nr nq ll]
    exact ⟨divB_trans nr na ll h2 (div_lcm_l na nb), divB_trans nq nb ll h4 (div_lcm_r na nb)⟩
  · obtain ⟨r, hr, q, hq, rfl⟩ := mem_pairL.mp hs
    obtain ⟨a, ha, rfl⟩ := List.mem_map.mp (min_sub r hr)
    obtain ⟨b, hb, rfl⟩ := List.mem_map.mp (min_sub q hq)
    have hp : f a b ∈ pairL f A B := mem_pairL.mpr ⟨a, ha, b, hb, rfl⟩
    obtain ⟨r, h1, h2⟩ := (mins_minL lP.len).cov _ hp
    refine ⟨h r, List.mem_map.mpr ⟨r, h1, rfl⟩, ?_⟩
    rw [← he a b (lA a ha) (lB b hb)]
    exact kh.mono r _ (lP.min r h1) (lP _ hp) h2
theorem img_min (kh : Keeps n h) (lA : NNs n A) : minL ((minL A).map h) = minL (A.map h) := by
  have hA := lA.map kh
  refine min_cong (lA.min.map kh).len hA.len (fun s hs => ?_) fun s hs => ?_
  · obtain ⟨x, hx, rfl⟩ := List.mem_map.mp hs
    exact ⟨h x, List.mem_map.mpr ⟨x, min_sub x hx, rfl⟩, divB_refl _⟩
  · obtain ⟨x, hx, rfl⟩ := List.mem_map.mp hs
    obtain ⟨r, h1, h2⟩ := (mins_minL lA.len).cov x hx
    exact ⟨h r, List.mem_map.mpr ⟨r, h1, rfl⟩, kh.mono r x (lA.min r h1) (lA x hx) h2⟩
theorem img_in (kh : Keeps n h) (hd : ∀ a, NN n a → divB (h a) a = true) (lA : NNs n A) : (A.all fun g => inL (minL (A.map h)) g) = true := all_in fun g hg =>
  (in_min (lA.map kh).len (lA g hg).1).mpr ⟨h g, List.mem_map.mpr ⟨g, hg, rfl⟩, hd g (lA g hg)⟩
end
theorem keeps_cut {n : Nat} {f : List Int} (hf : NN n f) : Keeps n fun a => cutL a f := by
  refine ⟨fun a ha => nn_cut ha hf, fun a b ha hb h => ?_⟩
  show divB (cutL a f) (cutL b f) = true
  unfold cutL
  rw [divB_iff (len_zw ha.1 hf.1) (len_zw hb.1 hf.1)]
  intro j hj
  rw [gd_zw ha.1 hf.1 hj, gd_zw hb.1 hf.1 hj]
  have := (divB_iff ha.1 hb.1).mp h j hj
  omega
theorem cut_div {n : Nat} {a f : List Int} (ha : NN n a) (hf : NN n f) : divB (cutL a f) a = true := by
  unfold cutL
  rw [divB_iff (len_zw ha.1 hf.1) ha.1]
  intro j hj
  rw [gd_zw ha.1 hf.1 hj]
  have := ha.at hj
  have := hf.at hj
  omega
theorem in_up {n : Nat} {A : List (List Int)} {c d : List Int} (hA : ∀ a ∈ A, a.length = n) (hc : c.length = n) (hd : d.length = n) (h : divB c d = true) (k : inL A c = true) : inL A d = true := by
  obtain ⟨a, ha, z⟩ := inL_iff.mp k
  exact inL_iff.mpr ⟨a, ha, divB_trans (hA a ha) hc hd z h⟩
end UC
end

section
set_option linter.all false
set_option maxRecDepth 100000
set_option maxHeartbeats 1000000
namespace UC
open PySem L2 DL RD
/-! components: plain -/
def holdsB (p m : List Int) : Bool := (p.zip m).any fun z => decide (0 < z.1) && decide (z.1 ≤ z.2)
theorem holds_iff {p m : List Int} {n : Nat} (hp : p.length = n) (hm : m.length = n) : holdsB p m = true ↔ ∃ j < n, 0 < gd p j ∧ gd p j ≤ gd m j := by
  unfold holdsB
  rw [zip_range hp hm, List.any_eq_true]
  constructor
  · rintro ⟨x, hx, h⟩
    obtain ⟨j, hj, rfl⟩ := List.mem_map.mp hx
    simp only [Bool.and_eq_true, decide_eq_true_eq] at h
    exact ⟨j, List.mem_range.mp hj, h⟩
  · rintro ⟨j, hj, h1, h2⟩
    exact ⟨_, List.mem_map.mpr ⟨j, List.mem_range.mpr hj, rfl⟩, by simp only [Bool.and_eq_true, decide_eq_true_eq]; exact ⟨h1, h2⟩⟩
/-- the power of one variable -/
def powL (n : Nat) (i : Nat) (e : Int) : List Int := (List.range n).map fun k => if k = i then e else 0
theorem len_powL {n i : Nat} {e : Int} : (powL n i e).length = n := by unfold powL; rw [List.length_map, List.length_range]
theorem gd_powL {n i k : Nat} {e : Int} (hk : k < n) : gd (powL n i e) k = if k = i then e else 0 := by
  rw [← gd_eq (by rw [len_powL]; exact hk)]
  unfold powL
  rw [List.getElem_map, List.getElem_range]
def powersL (p : List Int) : List (List Int) := (p.zipIdx.filter fun z => decide (0 < z.1)).map fun z => powL p.length z.2 z.1
theorem mem_powersL {p x : List Int} {n : Nat} (hp : p.length = n) : x ∈ powersL p ↔ ∃ j < n, 0 < gd p j ∧ x = powL n j (gd p j) := by
  unfold powersL
  rw [zipIdx_range, hp]
  simp only [List.mem_map, List.mem_filter, List.mem_range, decide_eq_true_eq]
  constructor
  · rintro ⟨z, ⟨⟨j, hj, rfl⟩, h⟩, rfl⟩
    exact ⟨j, hj, h, rfl⟩
  · rintro ⟨j, hj, h, rfl⟩
    exact ⟨_, ⟨⟨j, hj, rfl⟩, h⟩, rfl⟩
/-- the first one's ideal contains the other's -/
def aroundB (p q : List Int) : Bool := (powersL q).all fun x => holdsB p x
theorem around_iff {p q : List Int} {n : Nat} (hp : p.length = n) (hq : q.length = n) : aroundB p q = true ↔ ∀ j < n, 0 < gd q j → 0 < gd p j ∧ gd p j ≤ gd q j := by
  unfold aroundB
  rw [List.all_eq_true]
  constructor
  · intro h j hj h0
    obtain ⟨i, hi, h1, h2⟩ := (holds_iff hp len_powL).mp (h _ ((mem_powersL hq).mpr ⟨j, hj, h0, rfl⟩))
    rw [gd_powL hi] at h2
    by_cases e : i = j
    · subst e
      rw [if_pos rfl] at h2
      exact ⟨h1, h2⟩
    · rw [if_neg e] at h2
      omega
  · intro h x hx
    obtain ⟨j, hj, h0, rfl⟩ := (mem_powersL hq).mp hx
    obtain ⟨h1, h2⟩ := h j hj h0
    exact (holds_iff hp len_powL).mpr ⟨j, hj, h1, by rw [gd_powL hj, if_pos rfl]; exact h2⟩
theorem around_refl {p : List Int} : aroundB p p = true := (around_iff rfl rfl).mpr fun _ _ h => ⟨h, Int.le_refl _⟩
theorem around_trans {p q r : List Int} {n : Nat} (hp : p.length = n) (hq : q.length = n) (hr : r.length = n) (h1 : aroundB p q = true) (h2 : aroundB q r = true) : aroundB p r = true :=
  (around_iff hp hr).mpr fun j hj h => by
    obtain ⟨a, b⟩ := (around_iff hq hr).mp h2 j hj h
    obtain ⟨c, d⟩ := (around_iff hp hq).mp h1 j hj a
    exact ⟨c, by omega⟩
theorem around_anti {p q : List Int} {n : Nat} (hp : NN n p) (hq : NN n q) (h1 : aroundB p q = true) (h2 : aroundB q p = true) : p = q :=
  (gd_ext hp.1 hq.1).mpr fun j hj => by
    have a := (around_iff hp.1 hq.1).mp h1 j hj
    have b := (around_iff hq.1 hp.1).mp h2 j hj
    have := hp.at hj
    have := hq.at hj
    by_cases c : 0 < gd q j
    · have := (a c)
      have := b this.1
      omega
    · by_cases d : 0 < gd p j
      · have := b d
        omega
      · omega
theorem holds_up {p m m' : List Int} {n : Nat} (hp : p.length = n) (hm : m.length = n) (hm' : m'.length = n) (h : divB m m' = true) (k : holdsB p m = true) : holdsB p m' = true := by
  obtain ⟨j, hj, h1, h2⟩ := (holds_iff hp hm).mp k
  have := (divB_iff hm hm').mp h j hj
  exact (holds_iff hp hm').mpr ⟨j, hj, h1, by omega⟩
theorem holds_around {p q m : List Int} {n : Nat} (hp : p.length = n) (hq : q.length = n) (hm : m.length = n) (h : aroundB p q = true) (k : holdsB q m = true) : holdsB p m = true := by
  obtain ⟨j, hj, h1, h2⟩ := (holds_iff hq hm).mp k
  obtain ⟨h3, h4⟩ := (around_iff hp hq).mp h j hj h1
  exact (holds_iff hp hm).mpr ⟨j, hj, h3, by omega⟩
/-- what the components of the ideal of some generators are -/
structure Comp (n : Nat) (G L : List (List Int)) : Prop where
  nn : NNs n L
  up : ∀ p ∈ L, ∀ g ∈ G, holdsB p g = true
  all : ∀ q, NN n q → (∀ g ∈ G, holdsB q g = true) → ∃ p ∈ L, aroundB q p = true
  anti : ∀ p ∈ L, ∀ q ∈ L, aroundB p q = true → p = q
theorem Comp.same {n : Nat} {G L M : List (List Int)} (a : Comp n G L) (b : Comp n G M) : ∀ x, x ∈ L ↔ x ∈ M := by
  have key : ∀ {L M : List (List Int)}, Comp n G L → Comp n G M → ∀ x ∈ L, x ∈ M := fun {L M} a b x hx => by
    obtain ⟨p, hp, h1⟩ := b.all x (a.nn x hx) (a.up x hx)
    obtain ⟨q, hq, h2⟩ := a.all p (b.nn p hp) (b.up p hp)
    have nx := a.nn x hx
    have np := b.nn p hp
    have e := a.anti x hx q hq (around_trans nx.1 np.1 (a.nn q hq).1 h1 h2)
    subst e
    rw [around_anti nx np h1 h2]
    exact hp
  exact fun x => ⟨key a b x, key b a x⟩
theorem Comp.uniq {n : Nat} {G L M : List (List Int)} (a : Comp n G L) (b : Comp n G M) (rL : RisL L) (rM : RisL M) : L = M := ris_eq rL rM (a.same b)
/-- a monomial lies in the ideal just if all components hold it -/
theorem Comp.inside {n : Nat} {G L : List (List Int)} {b : List Int} (hG : ∀ g ∈ G, g.length = n) (a : Comp n G L) (hb : NN n b) : inL G b = true ↔ ∀ p ∈ L, holdsB p b = true := by
  constructor
  · intro h p hp
    obtain ⟨g, hg, h1⟩ := inL_iff.mp h
    exact holds_up (a.nn p hp).1 (hG g hg) hb.1 h1 (a.up p hp g hg)
  · intro h
    refine Classical.byContradiction fun hno => ?_
    let q : List Int := b.map (· + 1)
    have hq : NN n q := ⟨by rw [List.length_map]; exact hb.1, fun x hx => by
      obtain ⟨y, hy, rfl⟩ := List.mem_map.mp hx
      have := hb.2 y hy
      omega⟩
    have gq : ∀ j, j < n → gd q j = gd b j + 1 := fun j hj => by
      have hj' : j < b.length := by rw [hb.1]; exact hj
      rw [← gd_eq (a := q) (by rw [List.length_map]; exact hj'), ← gd_eq hj', List.getElem_map]
    obtain ⟨p, hp, h1⟩ := a.all q hq fun g hg => by
      refine Classical.byContradiction fun hn => ?_
      refine hno (inL_iff.mpr ⟨g, hg, (divB_iff (hG g hg) hb.1).mpr fun j hj => ?_⟩)
      refine Classical.byContradiction fun hlt => hn ((holds_iff hq.1 (hG g hg)).mpr ⟨j, hj, ?_, ?_⟩)
      · rw [gq j hj]
        have := hb.at hj
        omega
      · rw [gq j hj]
        omega
    obtain ⟨j, hj, h2, h3⟩ := (holds_iff (a.nn p hp).1 hb.1).mp (h p hp)
    have := (around_iff hq.1 (a.nn p hp).1).mp h1 j hj h2
    rw [gq j hj] at this
    omega
/-! the program's way -/
def setI (p : List Int) (i : Nat) (e : Int) : List Int := (p.take i ++ [e]) ++ p.drop (i + 1)
theorem len_setI {p : List Int} {i n : Nat} {e : Int} (hp : p.length = n) (hi : i < n) : (setI p i e).length = n := by
  unfold setI
  simp
  omega
theorem gd_setI {p : List Int} {i j n : Nat} {e : Int} (hp : p.length = n) (hi : i < n) (hj : j < n) : gd (setI p i e) j = if j = i then e else gd p j := by
  unfold gd setI
  rw [List.getD_eq_getElem?_getD, List.getD_eq_getElem?_getD]
  by_cases h : j < i
  · rw [if_neg (by omega), List.append_assoc, List.getElem?_append_left (by simp; omega), List.getElem?_take_of_lt h]
  · by_cases e : j = i
    · subst e
      rw [if_pos rfl, List.getElem?_append_left (by simp; omega), List.getElem?_append_right (by rw [List.length_take]; omega)]
      simp [show j - min j p.length = 0 by omega]
    · rw [if_neg e, List.getElem?_append_right (by simp; omega), List.getElem?_drop]
      congr 2
      simp
      omega
theorem mem_setI {p : List Int} {i : Nat} {e x : Int} (h : x ∈ setI p i e) : x = e ∨ x ∈ p := by
  unfold setI at h
  rcases List.mem_append.mp h with h | h
  · rcases List.mem_append.mp h with h | h
    · exact .inr (List.mem_of_mem_take h)
    · exact .inl (List.mem_singleton.mp h)
  · exact .inr (List.mem_of_mem_drop h)
def splitL (p g : List Int) : List (List Int) := if holdsB p g = true then [p] else (g.zipIdx.filter fun z => decide (0 < z.1)).map fun z => setI p z.2 z.1
theorem mem_splitL {p g x : List Int} {n : Nat} (hg : g.length = n) : x ∈ splitL p g ↔ (holdsB p g = true ∧ x = p) ∨ (holdsB p g = false ∧ ∃ j < n, 0 < gd g j ∧ x = setI p j (gd g j)) := by
  unfold splitL
  cases e : holdsB p g with
  | true => simp
  | false =>
    rw [if_neg Bool.false_ne_true, zipIdx_range, hg]
    simp only [List.mem_map, List.mem_filter, List.mem_range, decide_eq_true_eq, Bool.false_eq_true, false_and, true_and, false_or]
    constructor
    · rintro ⟨z, ⟨⟨j, hj, rfl⟩, h⟩, rfl⟩
      exact ⟨j, hj, h, rfl⟩
    · rintro ⟨j, hj, h, rfl⟩
      exact ⟨_, ⟨⟨j, hj, rfl⟩, h⟩, rfl⟩
def idleL (S : List (List Int)) : List (List Int) := (sortU S).filter fun p => !(((sortU S).map fun q => decide (p ≠ q) && aroundB p q).any id)
theorem mem_idleL {S : List (List Int)} {p : List Int} : p ∈ idleL S ↔ p ∈ S ∧ ∀ q ∈ S, aroundB p q = true → p = q := by
  unfold idleL
  rw [List.mem_filter, mem_sortU, Bool.not_eq_true', Bool.eq_false_iff, ne_eq, List.any_eq_true]
  constructor
  · rintro ⟨h1, h2⟩
    refine ⟨h1, fun q hq h => Classical.byContradiction fun hne => h2 ⟨true, List.mem_map.mpr ⟨q, mem_sortU.mpr hq, ?_⟩, rfl⟩⟩
    rw [h, decide_eq_true hne]
    rfl
  · rintro ⟨h1, h2⟩
    refine ⟨h1, ?_⟩
    rintro ⟨b, hb, hb2⟩
    obtain ⟨q, hq, rfl⟩ := List.mem_map.mp hb
    simp only [id_eq, Bool.and_eq_true, decide_eq_true_eq] at hb2
    exact hb2.1 (h2 q (mem_sortU.mp hq) hb2.2)
theorem ris_idleL (S : List (List Int)) : RisL (idleL S) := (ris_sortU S).sublist List.filter_sublist
/-- below every one there is one that contains no other -/
theorem idle_below {n : Nat} {S : List (List Int)} (hS : NNs n S) : ∀ p ∈ S, ∃ q ∈ idleL S, aroundB p q = true := by
  have key : ∀ (k : Nat) (p : List Int), p ∈ S → (S.filter fun q => aroundB p q).length ≤ k → ∃ q ∈ idleL S, aroundB p q = true := by
    intro k
    induction k with
    | zero =>
      intro p hp h
      have : p ∈ S.filter fun q => aroundB p q := List.mem_filter.mpr ⟨hp, around_refl⟩
      rw [List.eq_nil_of_length_eq_zero (Nat.le_zero.mp h)] at this
      cases this
    | succ k ih =>
      intro p hp h
      by_cases e : ∃ q ∈ S, aroundB p q = true ∧ p ≠ q
      · obtain ⟨q, hq, h1, h2⟩ := e
        have sub : (S.filter fun r => aroundB q r).length < (S.filter fun r => aroundB p r).length := by
          have e1 : (S.filter fun r => aroundB q r) = (S.filter fun r => aroundB p r).filter fun r => aroundB q r := by
            rw [List.filter_filter]
            refine List.filter_congr fun r hr => ?_
            cases z : aroundB q r with
            | false => rfl
            | true => rw [around_trans (hS p hp).1 (hS q hq).1 (hS r hr).1 h1 z]; rfl
          rw [e1]
          refine List.length_filter_lt_length_iff_exists.mpr ⟨p, List.mem_filter.mpr ⟨hp, around_refl⟩, fun z => h2 (around_anti (hS p hp) (hS q hq) h1 z)⟩
        obtain ⟨r, hr, h3⟩ := ih q hq (by omega)
        exact ⟨r, hr, around_trans (hS p hp).1 (hS q hq).1 (hS r (mem_idleL.mp hr).1).1 h1 h3⟩
      · exact ⟨p, mem_idleL.mpr ⟨hp, fun q hq h1 => Classical.byContradiction fun h2 => e ⟨q, hq, h1, h2⟩⟩, around_refl⟩
  exact fun p hp => key _ p hp (Nat.le_refl _)
def stepC (F : List (List Int)) (g : List Int) : List (List Int) := idleL (F.flatMap fun p => splitL p g)
def compF (n : Nat) (G : List (List Int)) : List (List Int) := G.foldl stepC [List.replicate n 0]
theorem comp_nil (n : Nat) : Comp n [] [List.replicate n 0] := by
  refine ⟨fun a ha => by rw [List.mem_singleton.mp ha]; exact (mon_zero n).nn, (fun p _ g hg => nomatch hg), fun q hq _ => ⟨_, List.mem_singleton.mpr rfl, (around_iff hq.1 (List.length_replicate ..)).mpr fun j hj h => ?_⟩, fun p hp q hq _ => ?_⟩
  · rw [gd_rep hj] at h
    omega
  · rw [List.mem_singleton.mp hp, List.mem_singleton.mp hq]
theorem comp_step {n : Nat} {G F : List (List Int)} {g : List Int} (hG : NNs n G) (hg : NN n g) (h : Comp n G F) : Comp n (G ++ [g]) (stepC F g) := by
  have hS : NNs n (F.flatMap fun p => splitL p g) := fun x hx => by
    obtain ⟨p, hp, hx⟩ := List.mem_flatMap.mp hx
    rcases (mem_splitL hg.1).mp hx with ⟨_, rfl⟩ | ⟨_, j, hj, _, rfl⟩
    · exact h.nn x hp
    · refine ⟨len_setI (h.nn p hp).1 hj, fun y hy => ?_⟩
      rcases mem_setI hy with rfl | hy
      · exact hg.at hj
      · exact (h.nn p hp).2 y hy
  refine ⟨fun x hx => hS x (mem_idleL.mp hx).1, fun x hx y hy => ?_, fun q hq hall => ?_, fun p hp q hq hd => (mem_idleL.mp hp).2 q (mem_idleL.mp hq).1 hd⟩
  · obtain ⟨p, hp, hx'⟩ := List.mem_flatMap.mp (mem_idleL.mp hx).1
    have lp := (h.nn p hp).1
    rcases (mem_splitL hg.1).mp hx' with ⟨e, rfl⟩ | ⟨e, j, hj, h0, rfl⟩
    · rcases List.mem_append.mp hy with hy | hy
      · exact h.up x hp y hy
      · rw [List.mem_singleton.mp hy]
        exact e
    · have ls := len_setI (e := gd g j) lp hj
      rcases List.mem_append.mp hy with hy | hy
      · refine holds_around ls lp (hG y hy).1 ((around_iff ls lp).mpr fun i hi hi0 => ?_) (h.up p hp y hy)
        rw [gd_setI lp hj hi]
        by_cases e2 : i = j
        · subst e2
          rw [if_pos rfl]
          refine ⟨h0, ?_⟩
          refine Classical.byContradiction fun hlt => ?_
          rw [Bool.eq_false_iff] at e
          exact e ((holds_iff lp hg.1).mpr ⟨i, hi, hi0, by omega⟩)
        · rw [if_neg e2]
          exact ⟨hi0, Int.le_refl _⟩
      · rw [List.mem_singleton.mp hy]
        exact (holds_iff ls hg.1).mpr ⟨j, hj, by rw [gd_setI lp hj hj, if_pos rfl]; exact h0, by rw [gd_setI lp hj hj, if_pos rfl]; exact Int.le_refl _⟩
  · obtain ⟨p, hp, hqp⟩ := h.all q hq fun y hy => hall y (List.mem_append_left _ hy)
    have lp := (h.nn p hp).1
    obtain ⟨x, hx, hqx⟩ : ∃ x ∈ (F.flatMap fun p => splitL p g), aroundB q x = true := by
      cases e : holdsB p g with
      | true => exact ⟨p, List.mem_flatMap.mpr ⟨p, hp, (mem_splitL hg.1).mpr (.inl ⟨e, rfl⟩)⟩, hqp⟩
      | false =>
        obtain ⟨j, hj, h1, h2⟩ := (holds_iff hq.1 hg.1).mp (hall g (List.mem_append_right _ (List.mem_singleton.mpr rfl)))
        refine ⟨setI p j (gd g j), List.mem_flatMap.mpr ⟨p, hp, (mem_splitL hg.1).mpr (.inr ⟨e, j, hj, by omega, rfl⟩)⟩, (around_iff hq.1 (len_setI lp hj)).mpr fun i hi h0 => ?_⟩
        rw [gd_setI lp hj hi] at h0 ⊢
        by_cases e2 : i = j
        · subst e2
          rw [if_pos rfl]
          exact ⟨h1, h2⟩
        · rw [if_neg e2] at h0 ⊢
          exact (around_iff hq.1 lp).mp hqp i hi h0
    obtain ⟨y, hy, hxy⟩ := idle_below hS x hx
    exact ⟨y, hy, around_trans hq.1 (hS x hx).1 (hS y (mem_idleL.mp hy).1).1 hqx hxy⟩
theorem comp_fold {n : Nat} : ∀ (G G0 F : List (List Int)), NNs n (G0 ++ G) → Comp n G0 F → Comp n (G0 ++ G) (G.foldl stepC F)
  | [], G0, F, _, h => by rw [List.append_nil]; exact h
  | g :: G, G0, F, hG, h => by
    have e : G0 ++ g :: G = (G0 ++ [g]) ++ G := by simp
    rw [e] at hG ⊢
    refine comp_fold G (G0 ++ [g]) (stepC F g) hG (comp_step (fun x hx => hG x (List.mem_append_left _ (List.mem_append_left _ hx))) (hG g (by simp)) h)
theorem comp_compF {n : Nat} {G : List (List Int)} (hG : NNs n G) : Comp n G (compF n G) := by
  have := comp_fold G [] [List.replicate n 0] (by rw [List.nil_append]; exact hG) (comp_nil n)
  rw [List.nil_append] at this
  exact this
theorem ris_fold : ∀ (G F : List (List Int)), RisL F → RisL (G.foldl stepC F)
  | [], F, h => h
  | g :: G, F, _ => ris_fold G _ (ris_idleL _)
theorem ris_compF (n : Nat) (G : List (List Int)) : RisL (compF n G) := ris_fold G _ (List.pairwise_singleton _ _)
/-! by corners -/
def topsL (n : Nat) (G : List (List Int)) : List Int := (List.range n).map fun k => (G.map fun a => gd a k).foldl max 0
theorem len_tops {n : Nat} {G : List (List Int)} : (topsL n G).length = n := by unfold topsL; rw [List.length_map, List.length_range]
theorem gd_tops {n k : Nat} {G : List (List Int)} (hk : k < n) : gd (topsL n G) k = (G.map fun a => gd a k).foldl max 0 := by
  rw [← gd_eq (by rw [len_tops]; exact hk)]
  unfold topsL
  rw [List.getElem_map, List.getElem_range]
theorem foldl_max_ge : ∀ (l : List Int) (a : Int), a ≤ l.foldl max a ∧ ∀ x ∈ l, x ≤ l.foldl max a
  | [], a => ⟨Int.le_refl _, fun x hx => nomatch hx⟩
  | y :: l, a => by
    obtain ⟨h1, h2⟩ := foldl_max_ge l (max a y)
    refine ⟨?_, fun x hx => ?_⟩
    · rw [List.foldl_cons]; omega
    · rw [List.foldl_cons]
      rcases List.mem_cons.mp hx with rfl | hx
      · omega
      · exact h2 x hx
theorem tops_ge {n k : Nat} {G : List (List Int)} (hk : k < n) : 0 ≤ gd (topsL n G) k ∧ ∀ g ∈ G, gd g k ≤ gd (topsL n G) k := by
  rw [gd_tops hk]
  obtain ⟨h1, h2⟩ := foldl_max_ge (G.map fun a => gd a k) 0
  exact ⟨h1, fun g hg => h2 _ (List.mem_map.mpr ⟨g, hg, rfl⟩)⟩
def raiseL (b : List Int) (k : Nat) : List Int := setI b k (gd b k + 1)
theorem len_raise {b : List Int} {k n : Nat} (hb : b.length = n) (hk : k < n) : (raiseL b k).length = n := len_setI hb hk
theorem gd_raise {b : List Int} {k j n : Nat} (hb : b.length = n) (hk : k < n) (hj : j < n) : gd (raiseL b k) j = if j = k then gd b k + 1 else gd b j := gd_setI hb hk hj
def isCorner (n : Nat) (G : List (List Int)) (b : List Int) : Prop := inL G b = false ∧ ∀ k < n, gd b k < gd (topsL n G) k → inL G (raiseL b k) = true
def partL (n : Nat) (tops b : List Int) : List Int := (List.range n).map fun k => if gd b k < gd tops k then gd b k + 1 else 0
theorem len_part {n : Nat} {tops b : List Int} : (partL n tops b).length = n := by unfold partL; rw [List.length_map, List.length_range]
theorem gd_part {n k : Nat} {tops b : List Int} (hk : k < n) : gd (partL n tops b) k = if gd b k < gd tops k then gd b k + 1 else 0 := by
  rw [← gd_eq (by rw [len_part]; exact hk)]
  unfold partL
  rw [List.getElem_map, List.getElem_range]
theorem nn_part {n : Nat} {tops b : List Int} (hb : ∀ j < n, 0 ≤ gd b j) : NN n (partL n tops b) := ⟨len_part, fun x hx => by
  unfold partL at hx
  obtain ⟨k, hk, rfl⟩ := List.mem_map.mp hx
  have := hb k (List.mem_range.mp hk)
  split <;> omega⟩
/-- above a monomial of the box that is left over stands a corner -/
theorem corner_above {n : Nat} {G : List (List Int)} (hG : ∀ g ∈ G, g.length = n) : ∀ (m : Nat) (b : List Int), b.length = n → (∀ j < n, gd b j ≤ gd (topsL n G) j) → inL G b = false → ((topsL n G).sum - b.sum).toNat ≤ m → ∃ c : List Int, c.length = n ∧ (∀ j < n, gd b j ≤ gd c j ∧ gd c j ≤ gd (topsL n G) j) ∧ isCorner n G c := by
  have sumset : ∀ (b : List Int) (k : Nat), k < b.length → (raiseL b k).sum = b.sum + 1 := by
    intro b k hk
    have e : b = (b.take k ++ [gd b k]) ++ b.drop (k + 1) := by
      conv => lhs; rw [← List.take_append_drop k b, List.drop_eq_getElem_cons hk, gd_eq hk]
      simp
    unfold raiseL setI
    conv => rhs; rw [e]
    simp only [List.sum_append, List.sum_cons, List.sum_nil]
    omega
  have sumle : ∀ (a b : List Int), a.length = b.length → (∀ j < a.length, gd a j ≤ gd b j) → a.sum ≤ b.sum := by
    intro a
    induction a with
    | nil => intro b hl _; rw [List.eq_nil_of_length_eq_zero hl.symm]; exact Int.le_refl _
    | cons x a ih =>
      intro b hl h
      cases b with
      | nil => simp at hl
      | cons y b =>
        have h0 := h 0 (by simp)
        have := ih b (by simpa using hl) fun j hj => h (j + 1) (by simp; omega)
        simp only [gd, List.getD_cons_zero] at h0
        simp only [List.sum_cons]
        omega
  intro m
  induction m with
  | zero =>
    intro b hb ht hi hm
    refine ⟨b, hb, fun j hj => ⟨Int.le_refl _, ht j hj⟩, hi, fun k hk hlt => ?_⟩
    have h1 := sumset b k (by omega)
    have h2 := sumle (raiseL b k) (topsL n G) (by rw [len_raise hb hk, len_tops]) fun j hj => by
      rw [len_raise hb hk] at hj
      rw [gd_raise hb hk hj]
      by_cases e : j = k
      · subst e; rw [if_pos rfl]; omega
      · rw [if_neg e]; exact ht j hj
    omega
  | succ m ih =>
    intro b hb ht hi hm
    by_cases h : ∃ k, k < n ∧ gd b k < gd (topsL n G) k ∧ inL G (raiseL b k) = false
    · obtain ⟨k, hk, hlt, hi2⟩ := h
      have gk : ∀ j < n, gd (raiseL b k) j = if j = k then gd b k + 1 else gd b j := fun j hj => gd_setI hb hk hj
      obtain ⟨c, h1, h2, h3⟩ := ih (raiseL b k) (len_setI hb hk) (fun j hj => by
        rw [gk j hj]
        by_cases e : j = k
        · subst e; rw [if_pos rfl]; omega
        · rw [if_neg e]; exact ht j hj) hi2 (by rw [sumset b k (by omega)]; omega)
      refine ⟨c, h1, fun j hj => ⟨?_, (h2 j hj).2⟩, h3⟩
      have := (h2 j hj).1
      rw [gk j hj] at this
      by_cases e : j = k
      · subst e; rw [if_pos rfl] at this; omega
      · rw [if_neg e] at this; exact this
    · refine ⟨b, hb, fun j hj => ⟨Int.le_refl _, ht j hj⟩, hi, fun k hk hlt => ?_⟩
      cases e : inL G (raiseL b k) with
      | true => rfl
      | false => exact absurd ⟨k, hk, hlt, e⟩ h
theorem comp_corners {n : Nat} {G L : List (List Int)} (hG : NNs n G) (hL : ∀ p, p ∈ L ↔ ∃ b ∈ boxL (topsL n G), isCorner n G b ∧ p = partL n (topsL n G) b) : Comp n G L := by
  have inbox : ∀ b, b ∈ boxL (topsL n G) → b.length = n ∧ ∀ j < n, 0 ≤ gd b j ∧ gd b j ≤ gd (topsL n G) j := fun b hb => by
    have := mem_boxL.mp hb
    rw [len_tops] at this
    exact this
  refine ⟨fun p hp => ?_, fun p hp g hg => ?_, fun q hq hall => ?_, fun p hp q hq hd => ?_⟩
  · obtain ⟨b, hb, _, rfl⟩ := (hL p).mp hp
    exact nn_part fun j hj => ((inbox b hb).2 j hj).1
  · obtain ⟨b, hb, hc, rfl⟩ := (hL p).mp hp
    obtain ⟨lb, hb⟩ := inbox b hb
    refine Classical.byContradiction fun hno => ?_
    have := hc.1
    rw [Bool.eq_false_iff] at this
    refine this (inL_iff.mpr ⟨g, hg, (divB_iff (hG g hg).1 lb).mpr fun j hj => ?_⟩)
    refine Classical.byContradiction fun hlt => hno ((holds_iff len_part (hG g hg).1).mpr ⟨j, hj, ?_⟩)
    have h1 := hb j hj
    have h2 := (tops_ge (G := G) hj).2 g hg
    rw [gd_part hj, if_pos (by omega)]
    omega
  · let b0 : List Int := (List.range n).map fun k => if 0 < gd q k then min (gd q k - 1) (gd (topsL n G) k) else gd (topsL n G) k
    have l0 : b0.length = n := by show (List.map _ _).length = n; rw [List.length_map, List.length_range]
    have g0 : ∀ k < n, gd b0 k = if 0 < gd q k then min (gd q k - 1) (gd (topsL n G) k) else gd (topsL n G) k := fun k hk => by
      rw [← gd_eq (by rw [l0]; exact hk)]
      show (List.map _ _)[k] = _
      rw [List.getElem_map, List.getElem_range]
    have t0 : ∀ k < n, gd b0 k ≤ gd (topsL n G) k := fun k hk => by
      rw [g0 k hk]
      split <;> omega
    have i0 : inL G b0 = false := by
      rw [Bool.eq_false_iff]
      intro h
      obtain ⟨g, hg, hd⟩ := inL_iff.mp h
      obtain ⟨j, hj, h1, h2⟩ := (holds_iff hq.1 (hG g hg).1).mp (hall g hg)
      have := (divB_iff (hG g hg).1 l0).mp hd j hj
      rw [g0 j hj, if_pos h1] at this
      omega
    obtain ⟨c, lc, hc, hcor⟩ := corner_above hG.len _ b0 l0 t0 i0 (Nat.le_refl _)
    have cb : c ∈ boxL (topsL n G) := mem_boxL.mpr ⟨by rw [lc, len_tops], fun j hj => by
      rw [len_tops] at hj
      refine ⟨?_, (hc j hj).2⟩
      have h1 := (hc j hj).1
      have h2 := (tops_ge (G := G) hj).1
      rw [g0 j hj] at h1
      have := hq.at hj
      split at h1 <;> omega⟩
    refine ⟨_, (hL _).mpr ⟨c, cb, hcor, rfl⟩, (around_iff hq.1 len_part).mpr fun j hj h0 => ?_⟩
    rw [gd_part hj] at h0 ⊢
    have h1 := (hc j hj).1
    rw [g0 j hj] at h1
    split at h0
    · rename_i hlt
      rw [if_pos hlt]
      split at h1 <;> omega
    · omega
  · obtain ⟨b, hb, hc, rfl⟩ := (hL p).mp hp
    obtain ⟨d, hd', hc', rfl⟩ := (hL q).mp hq
    obtain ⟨lb, hb⟩ := inbox b hb
    obtain ⟨ld, hd'⟩ := inbox d hd'
    have hle : ∀ j < n, gd b j ≤ gd d j := fun j hj => by
      have := (around_iff len_part len_part).mp hd j hj
      rw [gd_part hj, gd_part hj] at this
      have h1 := hb j hj
      have h2 := hd' j hj
      by_cases e : gd d j < gd (topsL n G) j
      · rw [if_pos e] at this
        have := this (by omega)
        split at this <;> omega
      · omega
    have : b = d := (gd_ext lb ld).mpr fun j hj => by
      refine Classical.byContradiction fun hne => ?_
      have h1 := hle j hj
      have h2 := hd' j hj
      have h3 := hc.2 j hj (by omega)
      have h4 := hc'.1
      rw [Bool.eq_false_iff] at h4
      refine h4 (in_up hG.len (len_raise lb hj) ld ((divB_iff (len_raise lb hj) ld).mpr fun i hi => ?_) h3)
      rw [gd_raise lb hj hi]
      have := hle i hi
      split
      · rename_i e; subst e; omega
      · exact this
    rw [this]
end UC
end

section
set_option linter.all false
set_option maxRecDepth 100000
set_option maxHeartbeats 1000000
open PySem L2 DL RD UC
local macro_rules | `(tactic| walk_at "E") => `(tactic| (try simp only [qAsg, qRet, qDrop, qIfS, qTest, qAndT, qOrT, qNotT, qAndV, qOrV, qNotV, qIf, qOp, qUn, qChain, onB, qv, qc, qgN, qgT, qgCons, qgNil, qCons, qNil, qTup, qLst, qPar, qPar3, qAug, qCB, qCall, qLen, qTupleC, qListC, qMax2, qMin2, qIntC, qSum, qAny, qAll, qIsi, tyName, qAdd, qSub, qMul, qFdiv, qMod, qPow, qI2, qCmpI, qEq, qNe, qLt, qLe, qGt, qGe, qNeg, qIx, qDGet, qDIn, qDPut, qSl, qPart, qNoPart, qNext, qFor, qiSeq, qiRng1, qiRng2, qiZip, qiEnum, qLc, seqSrc, lsrc, titems, litems, sitems, fz, newL, List.getElem?_cons_zero, List.getElem?_cons_succ, List.set_cons_zero, List.set_cons_succ, if_true, if_false, Bool.false_eq_true, ite_true, ite_false, up_same, reduceIte, decide_true, decide_false, true_and, and_true]))
local macro_rules | `(tactic| walk_at "D") => `(tactic| (try simp only [qAsg, qRet, qDrop, qIfS, qTest, qAndT, qOrT, qNotT, qAndV, qOrV, qNotV, qIf, qOp, qUn, qChain, onB, qv, qc, qgN, qgT, qgCons, qgNil, qCons, qNil, qTup, qLst, qPar, qPar3, qAug, qCB, qCall, qLen, qTupleC, qListC, qMax2, qMin2, qIntC, qSum, qAny, qAll, qIsi, tyName, qAdd, qSub, qMul, qFdiv, qMod, qPow, qI2, qCmpI, qEq, qNe, qLt, qLe, qGt, qGe, qNeg, qIx, qDGet, qDIn, qDPut, qSl, qPart, qNoPart, qNext, qFor, qiSeq, qiRng1, qiRng2, qiZip, qiEnum, qLc, seqSrc, lsrc, titems, litems, sitems, fz, newL, List.getElem?_cons_zero, List.getElem?_cons_succ, List.set_cons_zero, List.set_cons_succ, if_true, if_false, Bool.false_eq_true, ite_true, ite_false, up_same, reduceIte, decide_true, decide_false, true_and, and_true, eqv_int, eqv_bool, eqv_TI, eqv_LI, eqv_TT, eqv_LT, eqv_nilL, eqv_nilT, shaped_TI, shaped_LI, shaped_TT, shaped_LT, shaped_int, shaped_bool, shaped_nilL, shaped_nilT, dints_map2, dbools_map2, datas_map, mkT_map, mkT_0, mkT_1, mkT_2, mkT_3, List.length_map, List.length_cons, List.length_nil, List.length_append, List.map_cons, List.map_nil, wipeD, Bool.not_true, Bool.not_false, eq_self, not_true_eq_false, not_false_eq_true, kitB_tt, kitB_ll, kitB_dd, kitB_bb, kitB_ib, kitB_ii, kitB_ss, kitB_tl, kitB_lt, Function.comp, datas, Option.map_some, List.cons_append, List.nil_append, CPow, le_size4, Int.toNat_natCast, rngD0, I_eq, Bo_eq, BS.qSortB, in_IT, in_IL, in_TT, in_TL, qNotN, qIsN, qSortD, qListRg, qDispT, keyX_TI, qLc2, qMax1, qMin1, qAppend, qExtend, tints_TI, dv_TI, Option.bind_some, qRetN, atI_0, atI_1, atI_2, mk_appT, mk_snocI, idl, rep_I, Option.map_none, eqv_idl, shaped_idl, Bool.and_self, Bool.true_and, Bool.and_true]))
local macro_rules | `(tactic| walk_at "F") => `(tactic| (try simp only [qAsg, qRet, qDrop, qIfS, qTest, qAndT, qOrT, qNotT, qAndV, qOrV, qNotV, qIf, qOp, qUn, qChain, onB, qv, qc, qgN, qgT, qgCons, qgNil, qCons, qNil, qTup, qLst, qPar, qPar3, qAug, qCB, qCall, qLen, qTupleC, qListC, qMax2, qMin2, qIntC, qSum, qAny, qAll, qIsi, tyName, qAdd, qSub, qMul, qFdiv, qMod, qPow, qI2, qCmpI, qEq, qNe, qLt, qLe, qGt, qGe, qNeg, qIx, qDGet, qDIn, qDPut, qSl, qPart, qNoPart, qNext, qFor, qiRng1, qiRng2, qiZip, qiEnum, qLc, fz, newL, List.getElem?_cons_zero, List.getElem?_cons_succ, List.set_cons_zero, List.set_cons_succ, if_true, if_false, Bool.false_eq_true, ite_true, ite_false, up_same, reduceIte, decide_true, decide_false, true_and, and_true, eqv_int, eqv_bool, eqv_TI, eqv_LI, eqv_TT, eqv_LT, eqv_nilL, eqv_nilT, shaped_TI, shaped_LI, shaped_TT, shaped_LT, shaped_int, shaped_bool, shaped_nilL, shaped_nilT, dints_map2, dbools_map2, datas_map, mkT_map, mkT_0, mkT_1, mkT_2, mkT_3, List.length_map, List.length_cons, List.length_nil, List.length_append, List.map_cons, List.map_nil, wipeD, Bool.not_true, Bool.not_false, eq_self, not_true_eq_false, not_false_eq_true, kitB_tt, kitB_ll, kitB_dd, kitB_bb, kitB_ib, kitB_ii, kitB_ss, kitB_tl, kitB_lt, Function.comp, datas, Option.map_some, List.cons_append, List.nil_append, CPow, le_size4, Int.toNat_natCast, rngD0, I_eq, Bo_eq, BS.qSortB, in_IT, in_IL, in_TT, in_TL, qNotN, qIsN, qSortD, qListRg, qDispT, keyX_TI, qLc2, qMax1, qMin1, qAppend, qExtend, tints_TI, dv_TI, Option.bind_some, qRetN, atI_0, atI_1, atI_2, mk_appT, mk_snocI, idl, rep_I, Option.map_none, eqv_idl, shaped_idl, Bool.and_self, Bool.true_and, Bool.and_true]))
namespace UC
open PySem L2 DL RD
/-! sorted lists of tuples -/
theorem leD_lex (a b : List Int) : leD (TI a) (TI b) = !lexL b a := by
  show (!PySem.W.dataLt (TI b) (TI a)) = _
  rw [BS.data_lexL]
theorem alike_TIs (L : List (List Int)) : PySem.W.AllAlike (L.map TI) := PySem.W.AllAlike.of fun a b => BS.alike_ints2 a b
theorem sortX_TIs (L : List (List Int)) : BS.SortX (L.map TI) := .inr fun d hd => by
  obtain ⟨t, ht, rfl⟩ := List.mem_map.mp hd
  exact ⟨_, rfl⟩
theorem depth_TIs {L : List (List Int)} : ∀ d ∈ L.map TI, d.depth ≤ 16 := fun d hd => by
  obtain ⟨t, ht, rfl⟩ := List.mem_map.mp hd
  have : (TI t).depth ≤ 1 := (sh_TI (n := 0)).2
  omega
theorem lex_le_tr (x y z : List Int) (h1 : (!lexL y x) = true) (h2 : (!lexL z y) = true) : (!lexL z x) = true := by
  have a := BS.le_tr (0, x) (0, y) (0, z)
  simp only [BS.le_lexL] at a
  exact a h1 h2
theorem lex_le_tot (x y : List Int) : ((!lexL y x) || !lexL x y) = true := by
  have a := BS.le_tot (0, x) (0, y)
  simp only [BS.le_lexL] at a
  exact a
theorem sort_TIs (L : List (List Int)) : (L.map TI).mergeSort leD = (L.mergeSort fun a b => !lexL b a).map TI :=
  (List.map_mergeSort (f := TI) (s := leD) fun a _ b _ => (leD_lex a b).symm).symm
theorem sort_nodup {L : List (List Int)} (h : L.Nodup) : (L.map TI).mergeSort leD = (sortU L).map TI := by
  rw [sort_TIs]
  congr 1
  refine ris_eq ?_ (ris_sortU L) fun x => ?_
  · have nd : (L.mergeSort fun a b => !lexL b a).Nodup := (List.mergeSort_perm _ _).nodup_iff.mpr h
    have pw := List.pairwise_mergeSort lex_le_tr lex_le_tot L
    refine List.Pairwise.imp (fun {a b} hab => ?_) (List.Pairwise.and nd pw)
    rcases lexL_tri a b with e | e | e
    · exact e
    · exact absurd e hab.1
    · rw [e] at hab; exact absurd hab.2 (by decide)
  · rw [mem_sortU, (List.mergeSort_perm _ _).mem_iff]
theorem ris_nodup {L : List (List Int)} (h : RisL L) : L.Nodup := List.Pairwise.imp (fun h e => by rw [e, lexL_irr] at h; cases h) h
theorem sort_ris {L : List (List Int)} (h : RisL L) : (L.map TI).mergeSort leD = L.map TI := by
  rw [sort_nodup (ris_nodup h), sortU_eq h fun x => Iff.rfl]
/-! how many there can be -/
def codeN (w : Nat) : List Int → Nat
  | [] => 0
  | x :: r => x.toNat + (w + 1) * codeN w r
theorem codeN_lt {w : Nat} : ∀ {a : List Int}, (∀ x ∈ a, 0 ≤ x ∧ x ≤ w) → codeN w a < (w + 1) ^ a.length
  | [], _ => by simp [codeN]
  | x :: r, h => by
    have h1 := h x List.mem_cons_self
    have h2 := codeN_lt (w := w) (a := r) fun y hy => h y (List.mem_cons_of_mem _ hy)
    rw [codeN, List.length_cons, Nat.pow_succ, Nat.mul_comm _ (w + 1)]
    have : (w + 1) * (codeN w r + 1) ≤ (w + 1) * (w + 1) ^ r.length := Nat.mul_le_mul_left _ h2
    rw [Nat.mul_add] at this
    omega
theorem codeN_inj {w : Nat} : ∀ {a b : List Int}, a.length = b.length → (∀ x ∈ a, 0 ≤ x ∧ x ≤ w) → (∀ x ∈ b, 0 ≤ x ∧ x ≤ w) → codeN w a = codeN w b → a = b
  | [], [], _, _, _, _ => rfl
  | x :: a, y :: b, hl, ha, hb, h => by
    have h1 := ha x List.mem_cons_self
    have h2 := hb y List.mem_cons_self
    simp only [codeN] at h
    have e : x.toNat = y.toNat := by
      have := congrArg (· % (w + 1)) h
      simp only [Nat.add_mul_mod_self_left] at this
      rw [Nat.mod_eq_of_lt (by omega), Nat.mod_eq_of_lt (by omega)] at this
      exact this
    have e2 : codeN w a = codeN w b := by
      rw [e] at h
      exact Nat.eq_of_mul_eq_mul_left (by omega) (Nat.add_left_cancel h)
    rw [codeN_inj (by simpa using hl) (fun z hz => ha z (List.mem_cons_of_mem _ hz)) (fun z hz => hb z (List.mem_cons_of_mem _ hz)) e2, show x = y by omega]
theorem nodup_count {L : List (List Int)} {n w : Nat} (nd : L.Nodup) (h : ∀ a ∈ L, Mon n w a) : L.length ≤ (w + 1) ^ n := by
  have nf : (L.map (codeN w)).Nodup := List.pairwise_map.mpr (List.Pairwise.imp_of_mem (fun {a b} ha hb hne e => hne (codeN_inj ((h a ha).1.trans (h b hb).1.symm) (h a ha).2 (h b hb).2 e)) nd)
  have := L2.nat_nodup_len (L.map (codeN w)) (List.range ((w + 1) ^ n)) nf fun x hx => by
    obtain ⟨a, ha, rfl⟩ := List.mem_map.mp hx
    have := codeN_lt (h a ha).2
    rw [(h a ha).1] at this
    exact List.mem_range.mpr this
  rw [List.length_map, List.length_range] at this
  exact this
theorem mon_step {n w : Nat} {F : List (List Int)} {g : List Int} (hg : Mon n w g) (hF : ∀ a ∈ F, Mon n w a) : ∀ a ∈ F.flatMap fun p => splitL p g, Mon n w a := fun x hx => by
  obtain ⟨p, hp, hx⟩ := List.mem_flatMap.mp hx
  rcases (mem_splitL hg.1).mp hx with ⟨_, rfl⟩ | ⟨_, j, hj, _, rfl⟩
  · exact hF x hp
  · refine ⟨len_setI (hF p hp).1 hj, fun y hy => ?_⟩
    rcases mem_setI hy with rfl | hy
    · exact hg.2 _ (gd_mem (by rw [hg.1]; exact hj))
    · exact (hF p hp).2 y hy
theorem mon_compF {n w : Nat} {G : List (List Int)} (hG : ∀ a ∈ G, Mon n w a) : ∀ a ∈ compF n G, Mon n w a := by
  have : ∀ (G F : List (List Int)), (∀ a ∈ G, Mon n w a) → (∀ a ∈ F, Mon n w a) → ∀ a ∈ G.foldl stepC F, Mon n w a := by
    intro G
    induction G with
    | nil => exact fun F _ h => h
    | cons g G ih =>
      intro F hG hF
      exact ih _ (fun a ha => hG a (List.mem_cons_of_mem _ ha)) fun a ha => mon_step (hG g List.mem_cons_self) hF a (mem_idleL.mp ha).1
  exact this G _ hG fun a ha => by
    rw [List.mem_singleton.mp ha]
    exact (mon_zero n).mono (by omega)
theorem len_compF {n w : Nat} {G : List (List Int)} (hG : ∀ a ∈ G, Mon n w a) : (compF n G).length ≤ (w + 1) ^ n := nodup_count (ris_nodup (ris_compF n G)) (mon_compF hG)
theorem len_splitL {p g : List Int} : (splitL p g).length ≤ g.length + 1 := by
  unfold splitL
  split
  · simp
  · rw [List.length_map]
    refine Nat.le_trans (List.length_filter_le _ _) ?_
    rw [List.length_zipIdx]
    omega
/-! the program's defs -/
def sp_want_small : SpD := fun xs st Q => ∃ (A : List (List Int)) (n : Nat), xs = [.d (idl n A)] ∧ n ≤ 8 ∧ A.length ≤ 10 ∧ Q (.d .none) st
theorem len_want_small : ∀ xs st Q, sp_want_small xs st Q → xs.length = 1 := by rintro xs st Q ⟨a, n, rfl, _⟩; rfl
theorem sem_want_small : ∀ xs st Q, sp_want_small xs st Q → rd_want_small { nx := fun _ st' => Fg Q (.d .none) st', rt := Fg Q } (startD 1 xs) st := by
  rintro xs st Q ⟨A, n, rfl, h1, h2, K⟩
  have e0 : startD 1 [.d (idl n A)] = [some (.d (idl n A))] := rfl
  rw [e0]
  unfold rd_want_small
  have g1 : ¬ (8 : Int) < n := by omega
  have g2 : ¬ (10 : Int) < A.length := by omega
  refine seq fun N hN => ?_
  walk_at "D"
  simp only [g1, decide_false]
  walk_at "D"
  refine hN _ _ ?_
  walk_at "D"
  simp only [g2, decide_false]
  walk_at "D"
  exact fg_ret K
def sp_holds : SpD := fun xs st Q => ∃ (p m : List Int), xs = [.d (TI p), .d (TI m)] ∧ Q (Bo (holdsB p m)) st
theorem len_holds : ∀ xs st Q, sp_holds xs st Q → xs.length = 2 := by rintro xs st Q ⟨p, m, rfl, _⟩; rfl
theorem sem_holds : ∀ xs st Q, sp_holds xs st Q → rd_holds { nx := fun _ st' => Fg Q (.d .none) st', rt := Fg Q } (startD 4 xs) st := by
  rintro xs st Q ⟨a, b, rfl, K⟩
  have e0 : startD 4 [.d (TI a), .d (TI b)] = [some (.d (TI a)), some (.d (TI b)), none, none] := rfl
  rw [e0]
  unfold rd_holds
  refine seq fun N hN => ?_
  walk_at "E"
  rw [zipD_ints]
  refine for_byT _ (fun i ε s => s = st ∧ (((a.zip b).take i).any fun z => decide (0 < z.1) && decide (z.1 ≤ z.2)) = false ∧ ∃ x y, ε = [some (.d (TI a)), some (.d (TI b)), x, y]) ⟨rfl, rfl, _, _, rfl⟩ (fun _ _ _ _ => trivial) ?_ ?_
  · rintro i p ε s hp ⟨rfl, ha, x, y, rfl⟩ L hL
    walk_at "E"
    simp only [List.map_cons, List.map_nil, List.length_cons, List.length_nil]
    walk_at "E"
    have hn : (((a.zip b).take (i + 1)).any fun z => decide (0 < z.1) && decide (z.1 ≤ z.2)) = (decide (0 < p.1) && decide (p.1 ≤ p.2)) := by
      rw [List.take_succ, hp, List.any_append, ha]
      simp
    have hh : (decide (0 < p.1) && decide (p.1 ≤ p.2)) = true → holdsB a b = true := fun h => by
      unfold holdsB
      exact List.any_eq_true.mpr ⟨p, List.mem_of_getElem? hp, h⟩
    by_cases h : 0 < p.1
    · simp only [h, decide_true, if_true, Bool.true_and] at hn hh ⊢
      walk_at "E"
      by_cases h2 : p.1 ≤ p.2
      · simp only [h2, decide_true, if_true] at hh ⊢
        rw [hh trivial] at K
        exact fg_ret K
      · simp only [h2, decide_false] at hn ⊢
        walk_at "E"
        exact hL _ _ ⟨rfl, hn, _, _, rfl⟩
    · simp only [h, decide_false, Bool.false_and] at hn ⊢
      walk_at "E"
      exact hL _ _ ⟨rfl, hn, _, _, rfl⟩
  · rintro ε s ⟨rfl, ha, x, y, rfl⟩
    refine hN _ _ ?_
    walk_at "E"
    refine fg_ret ?_
    rw [List.take_length] at ha
    have e : holdsB a b = false := ha
    rw [e] at K
    exact K
theorem take_filter_map {α β : Type} {l : List α} {i : Nat} {x : α} {p : α → Bool} {f : α → β} (h : l[i]? = some x) : ((l.take (i + 1)).filter p).map f = ((l.take i).filter p).map f ++ if p x = true then [f x] else [] := by
  rw [List.take_succ, h, List.filter_append, List.map_append]
  congr 1
  simp only [Option.toList_some, List.filter_cons, List.filter_nil]
  split <;> rfl
def sp_powers_of : SpD := fun xs st Q => ∃ (p : List Int), xs = [.d (TI p)] ∧ p.length ≤ 1000 ∧
  ∀ q st', st q = none → st' q = some (.lst (((powersL p).map TI).map .d)) → (∀ b, b ≠ q → st' b = st b) → Q (.r q) st'
theorem len_powers_of : ∀ xs st Q, sp_powers_of xs st Q → xs.length = 1 := by rintro xs st Q ⟨p, rfl, _⟩; rfl
theorem sem_powers_of : ∀ xs st Q, sp_powers_of xs st Q → rd_powers_of { nx := fun _ st' => Fg Q (.d .none) st', rt := Fg Q } (startD 5 xs) st := by
  rintro xs st Q ⟨p, rfl, hl, K⟩
  have e0 : startD 5 [.d (TI p)] = [some (.d (TI p)), none, none, none, none] := rfl
  rw [e0]
  unfold rd_powers_of
  refine seq fun N hN => ?_
  walk_at "D"
  refine ⟨by decide, fun q hq => hN _ _ ?_⟩; clear hN N
  refine seq fun N hN => ?_
  walk_at "D"
  rw [enumD_ints]
  refine for_byT _ (fun i ε s => (∃ y2 y3, ε = [some (.d (TI p)), some (.r q), y2, y3, none]) ∧ s q = some (.lst (((((p.zipIdx.take i).filter fun z => decide (0 < z.1)).map fun z => powL p.length z.2 z.1).map TI).map .d)) ∧ ∀ b, b ≠ q → s b = st b) ⟨⟨_, _, rfl⟩, up_same, fun b hb => up_ne hb⟩ (fun _ _ _ _ => trivial) ?_ ?_
  · rintro i z ε s hz ⟨⟨y2, y3, rfl⟩, hs, fr⟩ L hL
    have hi : i < p.length := by
      have := (List.getElem?_eq_some_iff.mp hz).1
      rw [List.length_zipIdx] at this
      exact this
    have hnx := take_filter_map (p := fun z : Int × Nat => decide (0 < z.1)) (f := fun z => powL p.length z.2 z.1) hz
    have hlen : ((p.zipIdx.take i).filter fun z => decide (0 < z.1)).length ≤ 1000 := Nat.le_trans (List.length_filter_le _ _) (by rw [List.length_take]; omega)
    walk_at "D"
    by_cases h : 0 < z.1
    · simp only [h, decide_true, if_true] at hnx ⊢
      walk_at "D"
      refine ⟨⟨_, hs⟩, by omega, by omega, by rw [List.length_range, sizeL]; omega, ?_⟩
      refine comp_mapT _ (fun (k : Nat) => I (if k = z.2 then z.1 else 0)) trivial _ _ ?_ ?_
      · intro k hk Q1 h2
        walk_at "D"
        by_cases e : k = z.2
        · rw [if_pos e] at h2
          have : ((k : Int) = (z.2 : Int)) = True := by simp [e]
          simp only [this, decide_true, if_true]
          walk_at "D"
          exact h2
        · rw [if_neg e] at h2
          have : ((k : Int) = (z.2 : Int)) = False := by simp; omega
          simp only [this, decide_false]
          walk_at "D"
          exact h2
      · rw [ints_dv0]
        walk_at "D"
        refine ⟨_, hs, by simp only [List.length_map, sizeL]; omega, hL _ _ ⟨⟨_, _, rfl⟩, ?_, fun b hb => by rw [up_ne hb]; exact fr b hb⟩⟩
        rw [up_same, hnx, List.map_append, List.map_append]
        rfl
    · simp only [h, decide_false] at hnx ⊢
      walk_at "D"
      rw [if_neg Bool.false_ne_true, List.append_nil] at hnx
      exact hL _ _ ⟨⟨_, _, rfl⟩, by rw [hnx]; exact hs, fr⟩
  · rintro ε s ⟨⟨y2, y3, rfl⟩, hs, fr⟩
    refine hN _ _ ?_
    walk_at "D"
    rw [List.take_of_length_le (Nat.le_refl _)] at hs
    exact fg_ret (K q s hq hs fr)
def sp_is_around : SpD := fun xs st Q => ∃ (p q : List Int), xs = [.d (TI p), .d (TI q)] ∧ q.length ≤ 1000 ∧ Q (Bo (aroundB p q)) st
theorem len_is_around : ∀ xs st Q, sp_is_around xs st Q → xs.length = 2 := by rintro xs st Q ⟨p, q, rfl, _⟩; rfl
theorem len_powersL (q : List Int) : (powersL q).length ≤ q.length := by
  unfold powersL
  rw [List.length_map]
  refine Nat.le_trans (List.length_filter_le _ _) ?_
  rw [List.length_zipIdx]
  exact Nat.le_refl _
theorem sem_is_around : ∀ xs st Q, sp_is_around xs st Q → rd_is_around sp_powers_of sp_holds { nx := fun _ st' => Fg Q (.d .none) st', rt := Fg Q } (startD 3 xs) st := by
  rintro xs st Q ⟨p, q, rfl, hl, K⟩
  have e0 : startD 3 [.d (TI p), .d (TI q)] = [some (.d (TI p)), some (.d (TI q)), none] := rfl
  rw [e0]
  unfold rd_is_around
  walk_at "D"
  refine ⟨q, rfl, hl, fun a s ha hs fr => ?_⟩
  have hp := len_powersL q
  walk_at "D"
  simp only [hs]
  refine ⟨by simp only [List.length_map, sizeL]; omega, ?_⟩
  rw [List.map_map]
  refine comp_mapT _ (fun x => Bo (holdsB p x)) (by rw [← List.map_map]; exact hs) _ _ ?_ ?_
  · intro x hx Q1 h
    walk_at "D"
    exact ⟨p, x, rfl, h⟩
  · have e1 : [] ++ (powersL q).map (fun x => Bo (holdsB p x)) = (((powersL q).map fun x => holdsB p x).map PyData.bool).map DV.d := by
      rw [List.nil_append, List.map_map, List.map_map]
      rfl
    rw [e1]
    walk_at "D"
    refine fg_le (le_up ha fr) ?_
    have e2 : ((powersL q).map fun x => holdsB p x).all id = aroundB p q := by
      rw [List.all_map]
      rfl
    rw [e2]
    exact K
def sp_without_idle : SpD := fun xs st Q => ∃ (x : DV) (S : List (List Int)) (n : Nat), xs = [x] ∧ sitems st x = some ((S.map TI).map .d) ∧ S.length < 4000 ∧ (∀ t ∈ S, t.length = n) ∧ 1 ≤ n ∧ n ≤ 1000 ∧ Q (.d (LT (idleL S))) st
theorem len_without_idle : ∀ xs st Q, sp_without_idle xs st Q → xs.length = 1 := by rintro xs st Q ⟨p, q, n, rfl, _⟩; rfl
theorem sem_without_idle : ∀ xs st Q, sp_without_idle xs st Q → rd_without_idle sp_is_around { nx := fun _ st' => Fg Q (.d .none) st', rt := Fg Q } (startD 4 xs) st := by
  rintro xs st Q ⟨x, S, n, rfl, hx, hl, hS, h1, h2, K⟩
  have e0 : startD 4 [x] = [some x, none, none, none] := rfl
  rw [e0]
  unfold rd_without_idle
  have hU : (sortU S).length < 4000 := Nat.lt_of_le_of_lt (sortU_len S) hl
  have lU : ∀ t ∈ sortU S, t.length = n := fun t ht => hS t (mem_sortU.mp ht)
  refine seq fun N hN => ?_
  walk_at "F"
  simp only [hx]
  walk_at "D"
  refine ⟨hl, ?_⟩
  refine hN _ _ ?_; clear hN N
  walk_at "D"
  refine ⟨by rw [sizeL]; omega, ?_⟩
  rw [List.map_map]
  refine comp_fmT _ (fun p => !(((sortU S).map fun q => decide (p ≠ q) && aroundB p q).any id)) (fun p => .d (TI p)) trivial _ _ ?_ ?_
  · intro p hp Q1 Q2 h
    walk_at "D"
    refine ⟨by rw [sizeL]; omega, ?_⟩
    rw [List.map_map]
    refine comp_mapT _ (fun q => Bo (decide (p ≠ q) && aroundB p q)) trivial _ _ ?_ ?_
    · intro q hq Q3 h3
      walk_at "D"
      by_cases e : p = q
      · simp only [e, decide_true, ne_eq, not_true_eq_false, decide_false, Bool.false_and] at h3 ⊢
        walk_at "D"
        exact h3
      · have e2 : (p = q) = False := by simp [e]
        simp only [e2, decide_false, ne_eq, not_false_eq_true, decide_true, Bool.true_and, Bool.not_false] at h3 ⊢
        walk_at "D"
        exact ⟨p, q, rfl, by rw [lU q hq]; omega, h3⟩
    · have e1 : [] ++ (sortU S).map (fun q => Bo (decide (p ≠ q) && aroundB p q)) = (((sortU S).map fun q => decide (p ≠ q) && aroundB p q).map PyData.bool).map DV.d := by
        rw [List.nil_append, List.map_map, List.map_map]
        rfl
      rw [e1]
      walk_at "D"
      cases e : ((sortU S).map fun q => decide (p ≠ q) && aroundB p q).any id with
      | true =>
        rw [e] at h
        walk_at "D"
        exact h
      | false =>
        rw [e] at h
        walk_at "D"
        exact h
  · rw [tis_dv0]
    walk_at "D"
    exact fg_ret K
theorem mk_appI (a b : List Int) : mkT ((a.map PyData.int).map .d ++ (b.map PyData.int).map .d) = .d (TI (a ++ b)) := by
  rw [mk_app, ← List.map_append]
theorem mk_appI3 (a b c : List Int) : mkT ((a.map PyData.int).map .d ++ (b.map PyData.int).map .d ++ (c.map PyData.int).map .d) = .d (TI (a ++ b ++ c)) := by
  simp only [← List.map_append, mkT_map]
theorem cut_setI (p : List Int) (i : Nat) (e : Int) (h : i < p.length) : (cutD p none (some (i : Int)) ++ [e]) ++ cutD p (some (((i + 1 : Nat)) : Int)) none = setI p i e := by
  unfold cutD setI
  rw [HT.sIx_nat, HT.sIx_none, HT.sIx_nat, HT.sIx_none, Nat.min_eq_left (by omega), Nat.min_eq_left (by omega), Nat.sub_zero, List.drop_zero, List.take_of_length_le (l := p.drop (i + 1)) (by rw [List.length_drop]; omega)]
def sp_split : SpD := fun xs st Q => ∃ (p g : List Int) (n : Nat), xs = [.d (TI p), .d (TI g)] ∧ p.length = n ∧ g.length = n ∧ n ≤ 1000 ∧
  ∀ x st', Le st st' → sitems st' x = some (((splitL p g).map TI).map .d) → Q x st'
theorem len_split : ∀ xs st Q, sp_split xs st Q → xs.length = 2 := by rintro xs st Q ⟨p, g, n, rfl, _⟩; rfl
theorem sem_split : ∀ xs st Q, sp_split xs st Q → rd_split sp_holds { nx := fun _ st' => Fg Q (.d .none) st', rt := Fg Q } (startD 5 xs) st := by
  rintro xs st Q ⟨p, g, n, rfl, hp, hg, hn, K⟩
  have e0 : startD 5 [.d (TI p), .d (TI g)] = [some (.d (TI p)), some (.d (TI g)), none, none, none] := rfl
  rw [e0]
  unfold rd_split
  refine seq fun N hN => ?_
  walk_at "D"
  refine ⟨p, g, rfl, ?_⟩
  walk_at "D"
  cases hh : holdsB p g with
  | true =>
    walk_at "D"
    refine ⟨by decide, fg_ret (K _ _ (Le.refl _) ?_)⟩
    unfold splitL
    rw [if_pos hh]
    rfl
  | false =>
    walk_at "D"
    refine hN _ _ ?_; clear hN N
    refine seq fun N hN => ?_
    walk_at "D"
    refine ⟨by decide, fun q hq => hN _ _ ?_⟩; clear hN N
    refine seq fun N hN => ?_
    walk_at "D"
    rw [enumD_ints]
    refine for_byT _ (fun i ε s => (∃ y3 y4, ε = [some (.d (TI p)), some (.d (TI g)), some (.r q), y3, y4]) ∧ s q = some (.lst (((((g.zipIdx.take i).filter fun z => decide (0 < z.1)).map fun z => setI p z.2 z.1).map TI).map .d)) ∧ ∀ b, b ≠ q → s b = st b) ⟨⟨_, _, rfl⟩, up_same, fun b hb => up_ne hb⟩ (fun _ _ _ _ => trivial) ?_ ?_
    · rintro i z ε s hz ⟨⟨y2, y3, rfl⟩, hs, fr⟩ L hL
      have hi : i < g.length := by
        have := (List.getElem?_eq_some_iff.mp hz).1
        rw [List.length_zipIdx] at this
        exact this
      have hz2 : z.2 < p.length := by
        have := (List.getElem?_eq_some_iff.mp hz).2
        rw [List.getElem_zipIdx] at this
        rw [← this]
        show 0 + i < p.length
        omega
      have hnx := take_filter_map (p := fun z : Int × Nat => decide (0 < z.1)) (f := fun z => setI p z.2 z.1) hz
      have hlen : ((g.zipIdx.take i).filter fun z => decide (0 < z.1)).length ≤ 1000 := Nat.le_trans (List.length_filter_le _ _) (by rw [List.length_take]; omega)
      walk_at "D"
      by_cases h : 0 < z.1
      · simp only [h, decide_true, if_true] at hnx ⊢
        walk_at "D"
        simp only [cutD_map]
        walk_at "D"
        have l1 := cutD_len p none (some (z.2 : Int))
        have l2 := cutD_len p (some ((z.2 : Int) + 1)) none
        refine ⟨⟨_, hs⟩, by decide, by rw [sizeL]; omega, by rw [sizeL]; omega, _, hs, by simp only [List.length_map, sizeL]; omega, hL _ _ ⟨⟨_, _, rfl⟩, ?_, fun b hb => by rw [up_ne hb]; exact fr b hb⟩⟩
        rw [up_same, hnx, mk_appI]
        rw [show ((z.2 : Int) + 1) = ((z.2 + 1 : Nat) : Int) by omega, cut_setI p z.2 z.1 hz2]
        simp only [List.map_append, List.map_cons, List.map_nil]
      · simp only [h, decide_false] at hnx ⊢
        walk_at "D"
        rw [if_neg Bool.false_ne_true, List.append_nil] at hnx
        exact hL _ _ ⟨⟨_, _, rfl⟩, by rw [hnx]; exact hs, fr⟩
    · rintro ε s ⟨⟨y2, y3, rfl⟩, hs, fr⟩
      refine hN _ _ ?_
      walk_at "D"
      rw [List.take_of_length_le (Nat.le_refl _)] at hs
      refine fg_ret (K _ s (le_up hq fr) ?_)
      unfold splitL
      rw [hh, if_neg Bool.false_ne_true]
      simp only [sitems, titems, litems, hs]
/-- generators of which the components can be made -/
def OkC (n w : Nat) (G : List (List Int)) : Prop := 1 ≤ n ∧ n ≤ 1000 ∧ (w + 1) ^ n * (n + 1) < 4000 ∧ ∀ g ∈ G, Mon n w g
def sp_components_of : SpD := fun xs st Q => ∃ (G : List (List Int)) (n w : Nat), xs = [I n, .d (TT G)] ∧ OkC n w G ∧ Q (.d (TT (compF n G))) st
theorem len_components_of : ∀ xs st Q, sp_components_of xs st Q → xs.length = 2 := by rintro xs st Q ⟨G, n, w, rfl, _⟩; rfl
theorem sem_components_of : ∀ xs st Q, sp_components_of xs st Q → rd_components_of sp_split sp_without_idle { nx := fun _ st' => Fg Q (.d .none) st', rt := Fg Q } (startD 6 xs) st := by
  rintro xs st Q ⟨G, n, w, rfl, ⟨h1, h2, hsz, hG⟩, K⟩
  have e0 : startD 6 [I n, .d (TT G)] = [some (I n), some (.d (TT G)), none, none, none, none] := rfl
  rw [e0]
  unfold rd_components_of
  have hpow : (w + 1) ^ n < 4000 := Nat.lt_of_le_of_lt (Nat.le_mul_of_pos_right _ (by omega)) hsz
  refine seq fun N hN => ?_
  walk_at "D"
  refine ⟨by decide, by simp, by omega, by omega, by decide, by decide, hN _ _ ?_⟩; clear hN N
  refine seq fun N hN => ?_
  walk_at "D"
  rw [List.map_map]
  refine for_byT _ (fun i ε s => Le st s ∧ ∃ (y3 y4 y5 : Option DV), ε = [some (I n), some (.d (TT G)), some (.d (LT (compF n (G.take i)))), y3, y4, y5]) ⟨Le.refl _, none, none, none, rfl⟩ (fun _ _ _ _ => trivial) ?_ ?_
  · rintro i g ε s hg ⟨le, y3, y4, y5, rfl⟩ L hL
    have hgM := hG g (List.mem_of_getElem? hg)
    have hT : ∀ a ∈ G.take i, Mon n w a := fun a ha => hG a (List.mem_of_mem_take ha)
    have hF := mon_compF hT
    have cF := len_compF hT
    have hnx : compF n (G.take (i + 1)) = stepC (compF n (G.take i)) g := by
      unfold compF
      rw [List.take_succ, hg, List.foldl_append]
      rfl
    generalize compF n (G.take i) = F at hF cF hnx
    have hW := mon_step hgM hF
    have cW : ∀ j, ((F.take j).flatMap fun p => splitL p g).length ≤ j * (n + 1) := by
      intro j
      induction j with
      | zero => simp
      | succ j ih =>
        rw [List.take_succ, List.flatMap_append, List.length_append, Nat.succ_mul]
        refine Nat.add_le_add ih ?_
        cases e : F[j]? with
        | none => simp
        | some p =>
          have := len_splitL (p := p) (g := g)
          rw [hgM.1] at this
          simpa using this
    refine seq fun N hN => ?_
    walk_at "D"
    refine ⟨by decide, fun q hq => hN _ _ ?_⟩; clear hN N
    refine seq fun N hN => ?_
    walk_at "D"
    rw [List.map_map]
    refine for_byT _ (fun j ε s' => Le s s' ∧ ∃ (y5 : Option DV), ε = [some (I n), some (.d (TT G)), some (.d (LT F)), some (.d (TI g)), some (.r q), y5] ∧ s' q = some (.lst ((((F.take j).flatMap fun p => splitL p g).map TI).map .d))) ⟨le_up1 hq, y5, rfl, up_same⟩ (fun _ _ _ _ => trivial) ?_ ?_
    · rintro j p ε s' hp ⟨le', y5, rfl, hs'⟩ L2 hL2
      have hj : j < F.length := (List.getElem?_eq_some_iff.mp hp).1
      have hpM := hF p (List.mem_of_getElem? hp)
      have hW2 : (F.take (j + 1)).flatMap (fun p => splitL p g) = (F.take j).flatMap (fun p => splitL p g) ++ splitL p g := by
        rw [List.take_succ, hp, List.flatMap_append]
        simp
      have hsz2 : ((F.take j).flatMap fun p => splitL p g).length + (splitL p g).length ≤ 4000 := by
        have := cW (j + 1)
        rw [hW2, List.length_append] at this
        have : (j + 1) * (n + 1) ≤ (w + 1) ^ n * (n + 1) := Nat.mul_le_mul_right _ (by omega)
        omega
      walk_at "D"
      refine ⟨⟨_, hs'⟩, p, g, n, rfl, hpM.1, hgM.1, h2, fun x s2 le2 hx => ?_⟩
      refine ⟨_, _, le2 _ _ hs', hx, by simp only [List.length_map, sizeL]; omega, hL2 _ _ ⟨(le'.trans le2).up hq, _, rfl, ?_⟩⟩
      rw [up_same, hW2, List.map_append, List.map_append]
    · rintro ε s' ⟨le', y5, rfl, hs'⟩
      refine hN _ _ ?_
      rw [List.take_length] at hs'
      walk_at "D"
      refine ⟨.r q, F.flatMap fun p => splitL p g, n, rfl, by simp only [sitems, titems, litems, hs'], ?_, fun t ht => (hW t ht).1, h1, h2, hL _ _ ⟨le.trans le', _, _, _, by rw [hnx]; rfl⟩⟩
      have := cW F.length
      rw [List.take_length] at this
      have : F.length * (n + 1) ≤ (w + 1) ^ n * (n + 1) := Nat.mul_le_mul_right _ cF
      omega
  · rintro ε s ⟨le, y3, y4, y5, rfl⟩
    refine hN _ _ ?_
    rw [List.take_length]
    have hF := mon_compF hG
    have cF := len_compF hG
    walk_at "D"
    refine ⟨alike_TIs _, sortX_TIs _, by omega, depth_TIs, ?_⟩
    rw [sort_ris (ris_compF n G)]
    walk_at "D"
    exact fg_le le K
def sp_components : SpD := fun xs st Q => ∃ (G : List (List Int)) (n w : Nat), xs = [.d (idl n G)] ∧ OkC n w G ∧ n ≤ 8 ∧ G.length ≤ 10 ∧ Q (.d (TT (compF n G))) st
theorem len_components : ∀ xs st Q, sp_components xs st Q → xs.length = 1 := by rintro xs st Q ⟨G, n, w, rfl, _⟩; rfl
theorem sem_components : ∀ xs st Q, sp_components xs st Q → rd_components sp_want_small sp_components_of { nx := fun _ st' => Fg Q (.d .none) st', rt := Fg Q } (startD 1 xs) st := by
  rintro xs st Q ⟨G, n, w, rfl, ok, h8, h10, K⟩
  have e0 : startD 1 [.d (idl n G)] = [some (.d (idl n G))] := rfl
  rw [e0]
  unfold rd_components
  refine seq fun N hN => ?_
  walk_at "D"
  refine ⟨G, n, rfl, h8, h10, hN _ _ ?_⟩; clear hN N
  walk_at "D"
  exact ⟨G, n, w, rfl, ok, fg_ret K⟩
end UC
end

section
set_option linter.all false
set_option maxRecDepth 100000
set_option maxHeartbeats 1000000
open PySem L2 DL RD UC
local macro_rules | `(tactic| walk_at "E") => `(tactic| (try simp only [qAsg, qRet, qDrop, qIfS, qTest, qAndT, qOrT, qNotT, qAndV, qOrV, qNotV, qIf, qOp, qUn, qChain, onB, qv, qc, qgN, qgT, qgCons, qgNil, qCons, qNil, qTup, qLst, qPar, qPar3, qAug, qCB, qCall, qLen, qTupleC, qListC, qMax2, qMin2, qIntC, qSum, qAny, qAll, qIsi, tyName, qAdd, qSub, qMul, qFdiv, qMod, qPow, qI2, qCmpI, qEq, qNe, qLt, qLe, qGt, qGe, qNeg, qIx, qDGet, qDIn, qDPut, qSl, qPart, qNoPart, qNext, qFor, qiSeq, qiRng1, qiRng2, qiZip, qiEnum, qLc, seqSrc, lsrc, titems, litems, sitems, fz, newL, List.getElem?_cons_zero, List.getElem?_cons_succ, List.set_cons_zero, List.set_cons_succ, if_true, if_false, Bool.false_eq_true, ite_true, ite_false, up_same, reduceIte, decide_true, decide_false, true_and, and_true]))
local macro_rules | `(tactic| walk_at "D") => `(tactic| (try simp only [qAsg, qRet, qDrop, qIfS, qTest, qAndT, qOrT, qNotT, qAndV, qOrV, qNotV, qIf, qOp, qUn, qChain, onB, qv, qc, qgN, qgT, qgCons, qgNil, qCons, qNil, qTup, qLst, qPar, qPar3, qAug, qCB, qCall, qLen, qTupleC, qListC, qMax2, qMin2, qIntC, qSum, qAny, qAll, qIsi, tyName, qAdd, qSub, qMul, qFdiv, qMod, qPow, qI2, qCmpI, qEq, qNe, qLt, qLe, qGt, qGe, qNeg, qIx, qDGet, qDIn, qDPut, qSl, qPart, qNoPart, qNext, qFor, qiSeq, qiRng1, qiRng2, qiZip, qiEnum, qLc, seqSrc, lsrc, titems, litems, sitems, fz, newL, List.getElem?_cons_zero, List.getElem?_cons_succ, List.set_cons_zero, List.set_cons_succ, if_true, if_false, Bool.false_eq_true, ite_true, ite_false, up_same, reduceIte, decide_true, decide_false, true_and, and_true, eqv_int, eqv_bool, eqv_TI, eqv_LI, eqv_TT, eqv_LT, eqv_nilL, eqv_nilT, shaped_TI, shaped_LI, shaped_TT, shaped_LT, shaped_int, shaped_bool, shaped_nilL, shaped_nilT, dints_map2, dbools_map2, datas_map, mkT_map, mkT_0, mkT_1, mkT_2, mkT_3, List.length_map, List.length_cons, List.length_nil, List.length_append, List.map_cons, List.map_nil, wipeD, Bool.not_true, Bool.not_false, eq_self, not_true_eq_false, not_false_eq_true, kitB_tt, kitB_ll, kitB_dd, kitB_bb, kitB_ib, kitB_ii, kitB_ss, kitB_tl, kitB_lt, Function.comp, datas, Option.map_some, List.cons_append, List.nil_append, CPow, le_size4, Int.toNat_natCast, rngD0, I_eq, Bo_eq, BS.qSortB, in_IT, in_IL, in_TT, in_TL, qNotN, qIsN, qSortD, qListRg, qDispT, keyX_TI, qLc2, qMax1, qMin1, qAppend, qExtend, tints_TI, dv_TI, Option.bind_some, qRetN, atI_0, atI_1, atI_2, mk_appT, mk_snocI, idl, rep_I, Option.map_none, eqv_idl, shaped_idl, Bool.and_self, Bool.true_and, Bool.and_true]))
local macro_rules | `(tactic| walk_at "F") => `(tactic| (try simp only [qAsg, qRet, qDrop, qIfS, qTest, qAndT, qOrT, qNotT, qAndV, qOrV, qNotV, qIf, qOp, qUn, qChain, onB, qv, qc, qgN, qgT, qgCons, qgNil, qCons, qNil, qTup, qLst, qPar, qPar3, qAug, qCB, qCall, qLen, qTupleC, qListC, qMax2, qMin2, qIntC, qSum, qAny, qAll, qIsi, tyName, qAdd, qSub, qMul, qFdiv, qMod, qPow, qI2, qCmpI, qEq, qNe, qLt, qLe, qGt, qGe, qNeg, qIx, qDGet, qDIn, qDPut, qSl, qPart, qNoPart, qNext, qFor, qiRng1, qiRng2, qiZip, qiEnum, qLc, fz, newL, List.getElem?_cons_zero, List.getElem?_cons_succ, List.set_cons_zero, List.set_cons_succ, if_true, if_false, Bool.false_eq_true, ite_true, ite_false, up_same, reduceIte, decide_true, decide_false, true_and, and_true, eqv_int, eqv_bool, eqv_TI, eqv_LI, eqv_TT, eqv_LT, eqv_nilL, eqv_nilT, shaped_TI, shaped_LI, shaped_TT, shaped_LT, shaped_int, shaped_bool, shaped_nilL, shaped_nilT, dints_map2, dbools_map2, datas_map, mkT_map, mkT_0, mkT_1, mkT_2, mkT_3, List.length_map, List.length_cons, List.length_nil, List.length_append, List.map_cons, List.map_nil, wipeD, Bool.not_true, Bool.not_false, eq_self, not_true_eq_false, not_false_eq_true, kitB_tt, kitB_ll, kitB_dd, kitB_bb, kitB_ib, kitB_ii, kitB_ss, kitB_tl, kitB_lt, Function.comp, datas, Option.map_some, List.cons_append, List.nil_append, CPow, le_size4, Int.toNat_natCast, rngD0, I_eq, Bo_eq, BS.qSortB, in_IT, in_IL, in_TT, in_TL, qNotN, qIsN, qSortD, qListRg, qDispT, keyX_TI, qLc2, qMax1, qMin1, qAppend, qExtend, tints_TI, dv_TI, Option.bind_some, qRetN, atI_0, atI_1, atI_2, mk_appT, mk_snocI, idl, rep_I, Option.map_none, eqv_idl, shaped_idl, Bool.and_self, Bool.true_and, Bool.and_true]))
namespace UC
open PySem L2 DL RD
/-! the law's own components -/
theorem nodup_boxL (tops : List Int) : (boxL tops).Nodup := by
  unfold boxL
  have key : ∀ (ts : List Int) (F : List (List Int)) (m : Nat), F.Nodup → (∀ a ∈ F, a.length = m) → (ts.foldl (fun F t => F.flatMap fun a => (List.range (t + 1).toNat).map fun (k : Nat) => a ++ [(k : Int)]) F).Nodup := by
    intro ts
    induction ts with
    | nil => exact fun F m h _ => h
    | cons t ts ih =>
      intro F m h hl
      refine ih _ (m + 1) ?_ fun x hx => ?_
      · refine List.pairwise_flatMap.mpr ⟨fun a ha => ?_, List.Pairwise.imp_of_mem (fun {a b} ha hb hne x hx y hy e => ?_) h⟩
        · refine List.pairwise_map.mpr (List.Pairwise.imp (fun {i j} hij e => hij ?_) List.nodup_range)
          have := List.append_cancel_left e
          have h2 : (i : Int) = (j : Int) := by simpa using this
          omega
        · obtain ⟨i, _, rfl⟩ := List.mem_map.mp hx
          obtain ⟨j, _, rfl⟩ := List.mem_map.mp hy
          exact hne (List.append_inj_left e ((hl a ha).trans (hl b hb).symm))
      · obtain ⟨a, ha, hx⟩ := List.mem_flatMap.mp hx
        obtain ⟨k, _, rfl⟩ := List.mem_map.mp hx
        rw [List.length_append, hl a ha]
        rfl
  exact key tops [[]] 0 (by simp) (by simp)
def sp_law_tops : SpD := fun xs st Q => ∃ (G : List (List Int)) (n : Nat), xs = [I n, .d (TT G)] ∧ G.length ≤ 1000 ∧ n ≤ 1000 ∧ (∀ g ∈ G, g.length = n) ∧ Q (.d (TI (topsL n G))) st
theorem len_law_tops : ∀ xs st Q, sp_law_tops xs st Q → xs.length = 2 := by rintro xs st Q ⟨G, n, rfl, _⟩; rfl
theorem sem_law_tops : ∀ xs st Q, sp_law_tops xs st Q → rd_law_tops { nx := fun _ st' => Fg Q (.d .none) st', rt := Fg Q } (startD 4 xs) st := by
  rintro xs st Q ⟨G, n, rfl, hl, hn, hG, K⟩
  have e0 : startD 4 [I n, .d (TT G)] = [some (I n), some (.d (TT G)), none, none] := rfl
  rw [e0]
  unfold rd_law_tops
  walk_at "D"
  refine ⟨by omega, by omega, by rw [List.length_range, sizeL]; omega, ?_⟩
  refine comp_mapT _ (fun (k : Nat) => I ((G.map fun a => gd a k).foldl max 0)) trivial _ _ ?_ ?_
  · intro k hk Q1 h
    rw [List.mem_range] at hk
    walk_at "D"
    refine ⟨by decide, by rw [sizeL]; omega, ?_⟩
    rw [List.map_map]
    refine comp_mapT _ (fun a => I (gd a k)) trivial _ _ ?_ ?_
    · intro a ha Q2 h2
      walk_at "D"
      simp only [atI_gd (show k < a.length by rw [hG a ha]; exact hk)]
      exact h2
    · rw [ints_dv0]
      walk_at "D"
      refine ⟨by rw [sizeL]; omega, ?_⟩
      have e1 : dints (DV.d (.int 0) :: List.map DV.d (List.map PyData.int (G.map fun a => gd a k))) = some (0 :: G.map fun a => gd a k) := dints_map2 (0 :: G.map fun a => gd a k)
      simp only [e1]
      exact h
  · rw [ints_dv0]
    walk_at "D"
    exact fg_ret K
def sp_law_raised : SpD := fun xs st Q => ∃ (b : List Int) (k : Nat), xs = [.d (TI b), I k] ∧ k < b.length ∧ b.length ≤ 1000 ∧ Q (.d (TI (raiseL b k))) st
theorem len_law_raised : ∀ xs st Q, sp_law_raised xs st Q → xs.length = 2 := by rintro xs st Q ⟨G, n, rfl, _⟩; rfl
theorem sem_law_raised : ∀ xs st Q, sp_law_raised xs st Q → rd_law_raised { nx := fun _ st' => Fg Q (.d .none) st', rt := Fg Q } (startD 2 xs) st := by
  rintro xs st Q ⟨b, k, rfl, hk, hl, K⟩
  have e0 : startD 2 [.d (TI b), I k] = [some (.d (TI b)), some (I k)] := rfl
  rw [e0]
  unfold rd_law_raised
  walk_at "D"
  simp only [cutD_map, atI_gd hk]
  walk_at "D"
  have l1 := cutD_len b none (some (k : Int))
  have l2 := cutD_len b (some ((k : Int) + 1)) none
  refine ⟨by decide, by rw [sizeL]; omega, by rw [sizeL]; omega, ?_⟩
  rw [mk_appI, show ((k : Int) + 1) = ((k + 1 : Nat) : Int) by omega, cut_setI b k _ hk]
  exact fg_ret K
def sp_law_in_part : SpD := fun xs st Q => ∃ (p b : List Int) (n : Nat), xs = [.d (TI p), .d (TI b)] ∧ p.length = n ∧ b.length = n ∧ n ≤ 1000 ∧ Q (Bo (holdsB p b)) st
theorem len_law_in_part : ∀ xs st Q, sp_law_in_part xs st Q → xs.length = 2 := by rintro xs st Q ⟨p, b, n, rfl, _⟩; rfl
theorem sem_law_in_part : ∀ xs st Q, sp_law_in_part xs st Q → rd_law_in_part { nx := fun _ st' => Fg Q (.d .none) st', rt := Fg Q } (startD 3 xs) st := by
  rintro xs st Q ⟨p, b, n, rfl, hp, hb, hn, K⟩
  have e0 : startD 3 [.d (TI p), .d (TI b)] = [some (.d (TI p)), some (.d (TI b)), none] := rfl
  rw [e0]
  unfold rd_law_in_part
  walk_at "D"
  refine ⟨by omega, by omega, by rw [List.length_range, sizeL]; omega, ?_⟩
  refine comp_fmT _ (fun (k : Nat) => decide (0 < gd p k) && decide (gd p k ≤ gd b k)) (fun (k : Nat) => I (k : Int)) trivial _ _ ?_ ?_
  · intro k hk Q1 Q2 h
    rw [List.mem_range] at hk
    walk_at "D"
    simp only [atI_gd (show k < p.length by omega), atI_gd (show k < b.length by omega)]
    by_cases h1 : 0 < gd p k
    · simp only [h1, decide_true, Bool.true_and] at h ⊢
      by_cases h2 : gd p k ≤ gd b k
      · simp only [h2, decide_true, if_true] at h ⊢
        walk_at "D"
        exact h
      · simp only [h2, decide_false] at h ⊢
        exact h
    · simp only [h1, decide_false, Bool.false_and] at h ⊢
      walk_at "D"
      exact h
  · rw [ints_dv0]
    walk_at "D"
    refine ⟨by decide, fg_ret ?_⟩
    have e : (!decide (((List.range p.length).filter fun (k : Nat) => decide (0 < gd p k) && decide (gd p k ≤ gd b k)).map (fun (k : Nat) => (k : Int)) = [])) = holdsB p b := by
      rw [Bool.eq_iff_iff, holds_iff hp hb, hp]
      simp only [Bool.not_eq_true', decide_eq_false_iff_not, List.map_eq_nil_iff, List.filter_eq_nil_iff, List.mem_range, Bool.and_eq_true, decide_eq_true_eq]
      constructor
      · intro h
        refine Classical.byContradiction fun hno => h fun k hk hh => hno ⟨k, hk, hh⟩
      · rintro ⟨k, hk, hh⟩ hno
        exact hno k hk hh
    rw [← e] at K
    exact K
def cornerB (n : Nat) (G : List (List Int)) (b : List Int) : Bool := !inL G b && decide ((List.range n).filter (fun k => decide (gd b k < gd (topsL n G) k) && !inL G (raiseL b k)) = [])
theorem corner_iff {n : Nat} {G : List (List Int)} {b : List Int} : cornerB n G b = true ↔ isCorner n G b := by
  unfold cornerB isCorner
  simp only [Bool.and_eq_true, Bool.not_eq_true', decide_eq_true_eq, List.filter_eq_nil_iff, List.mem_range, not_and, Bool.not_eq_false]
def cornF (n : Nat) (G : List (List Int)) : List (List Int) := ((boxL (topsL n G)).filter (cornerB n G)).map (partL n (topsL n G))
theorem mem_cornF {n : Nat} {G : List (List Int)} {p : List Int} : p ∈ cornF n G ↔ ∃ b ∈ boxL (topsL n G), isCorner n G b ∧ p = partL n (topsL n G) b := by
  unfold cornF
  rw [List.mem_map]
  constructor
  · rintro ⟨b, hb, rfl⟩
    obtain ⟨h1, h2⟩ := List.mem_filter.mp hb
    exact ⟨b, h1, corner_iff.mp h2, rfl⟩
  · rintro ⟨b, h1, h2, rfl⟩
    exact ⟨b, List.mem_filter.mpr ⟨h1, corner_iff.mpr h2⟩, rfl⟩
theorem box_at {n : Nat} {G : List (List Int)} {b : List Int} (hb : b ∈ boxL (topsL n G)) : b.length = n ∧ ∀ j < n, 0 ≤ gd b j ∧ gd b j ≤ gd (topsL n G) j := by
  have := mem_boxL.mp hb
  rw [len_tops] at this
  exact this
theorem nodup_cornF (n : Nat) (G : List (List Int)) : (cornF n G).Nodup := by
  unfold cornF
  refine List.pairwise_map.mpr (List.Pairwise.imp_of_mem (fun {a b} ha hb hne e => hne ?_) ((nodup_boxL _).sublist List.filter_sublist))
  obtain ⟨la, ha⟩ := box_at (List.mem_filter.mp ha).1
  obtain ⟨lb, hb⟩ := box_at (List.mem_filter.mp hb).1
  refine (gd_ext la lb).mpr fun j hj => ?_
  have e1 := congrArg (fun z => gd z j) e
  simp only [gd_part hj] at e1
  have := ha j hj
  have := hb j hj
  split at e1 <;> split at e1 <;> omega
theorem corn_eq {n : Nat} {G : List (List Int)} (hG : NNs n G) : sortU (cornF n G) = compF n G :=
  sortU_eq (ris_compF n G) fun x => (comp_corners hG fun p => mem_cornF).same (comp_compF hG) x
def sp_law_components : SpD := fun xs st Q => ∃ (G : List (List Int)) (n : Nat), xs = [I n, .d (TT G)] ∧ G.length ≤ 1000 ∧ 1 ≤ n ∧ n ≤ 100 ∧ (∀ g ∈ G, Mon n 60 g) ∧ (∀ i, (boxL ((topsL n G).take i)).length ≤ 100000) ∧ Q (.d (TT (compF n G))) st
theorem len_law_components : ∀ xs st Q, sp_law_components xs st Q → xs.length = 2 := by rintro xs st Q ⟨G, n, rfl, _⟩; rfl
theorem tops_le {n : Nat} {w : Int} {G : List (List Int)} (hw : 0 ≤ w) (hG : ∀ g ∈ G, Mon n w g) : Mon n w (topsL n G) := by
  refine ⟨len_tops, fun x hx => ?_⟩
  unfold topsL at hx
  obtain ⟨k, hk, rfl⟩ := List.mem_map.mp hx
  rw [List.mem_range] at hk
  refine ⟨(foldl_max_ge _ 0).1, foldl_max_le _ 0 hw fun y hy => ?_⟩
  obtain ⟨a, ha, rfl⟩ := List.mem_map.mp hy
  exact ((hG a ha).2 _ (gd_mem (by rw [(hG a ha).1]; exact hk))).2
theorem sem_law_components : ∀ xs st Q, sp_law_components xs st Q → rd_law_components sp_law_tops sp_law_box sp_law_in sp_law_raised { nx := fun _ st' => Fg Q (.d .none) st', rt := Fg Q } (startD 7 xs) st := by
  rintro xs st Q ⟨G, n, rfl, hl, h1, h2, hG, hsz, K⟩
  have e0 : startD 7 [I n, .d (TT G)] = [some (I n), some (.d (TT G)), none, none, none, none, none] := rfl
  rw [e0]
  unfold rd_law_components
  have lG : ∀ g ∈ G, g.length = n := fun g hg => (hG g hg).1
  have hT := tops_le (by decide) hG
  have hbx : (boxL (topsL n G)).length ≤ 100000 := by
    have := hsz (topsL n G).length
    rw [List.take_length] at this
    exact this
  have hn1 : n ≤ 1000 := by omega
  refine seq fun N hN => ?_
  walk_at "D"
  refine ⟨G, n, rfl, hl, hn1, lG, ?_⟩
  refine ⟨by decide, fun q hq => ?_⟩
  walk_at "D"
  refine ⟨by decide, ?_⟩
  walk_at "D"
  refine ⟨rfl, rfl, hN _ _ ?_⟩; clear hN N
  refine seq fun N hN => ?_
  walk_at "D"
  refine ⟨.d (TI (topsL n G)), topsL n G, rfl, rfl, by rw [len_tops]; omega, hT.2, hsz, fun x s1 le hr hx => ?_⟩
  obtain ⟨inv, hsrc, hinv⟩ := src_of2 hx
  simp only [seqSrc, titems, lsrc] at hsrc
  simp only [hsrc]
  rw [List.map_map]
  have hxq : ∀ s', (∀ b, b ≠ q → s' b = s1 b) → sitems s' x = some (((boxL (topsL n G)).map TI).map .d) := fun s' fr => by
    cases x with
    | d z => cases z <;> exact hx
    | t ys => exact hx
    | r a =>
      have e : a ≠ q := fun e => by
        have := hr a rfl
        rw [e, up_same] at this
        cases this
      simp only [sitems, titems, litems] at hx ⊢
      rw [fr a e]
      exact hx
  refine for_byT _ (fun i ε s => (∃ y4 y5, ε = [some (I n), some (.d (TT G)), some (.d (TI (topsL n G))), some (.r q), y4, y5, none]) ∧ s q = some (.lst ((((((boxL (topsL n G)).take i).filter (cornerB n G)).map (partL n (topsL n G))).map TI).map .d)) ∧ ∀ b, b ≠ q → s b = s1 b) ⟨⟨_, _, rfl⟩, le _ _ up_same, fun b hb => rfl⟩ (fun i ε s h => hinv s (hxq s h.2.2)) ?_ ?_
  · rintro i b ε s hb ⟨⟨y4, y5, rfl⟩, hs, fr⟩ L hL
    have hi : i < (boxL (topsL n G)).length := (List.getElem?_eq_some_iff.mp hb).1
    obtain ⟨lb, hbb⟩ := box_at (List.mem_of_getElem? hb)
    have hnx := take_filter_map (p := cornerB n G) (f := partL n (topsL n G)) hb
    have hlen : (((boxL (topsL n G)).take i).filter (cornerB n G)).length ≤ 100000 := Nat.le_trans (List.length_filter_le _ _) (by rw [List.length_take]; omega)
    walk_at "D"
    refine ⟨G, b, n, rfl, hl, hn1, lG, lb, ?_⟩
    walk_at "D"
    have hc : cornerB n G b = (!inL G b && decide ((List.range n).filter (fun k => decide (gd b k < gd (topsL n G) k) && !inL G (raiseL b k)) = [])) := rfl
    cases hin : inL G b with
    | true =>
      rw [hin, Bool.not_true, Bool.false_and] at hc
      rw [hc, if_neg Bool.false_ne_true, List.append_nil] at hnx
      walk_at "D"
      exact hL _ _ ⟨⟨_, _, rfl⟩, by rw [hnx]; exact hs, fr⟩
    | false =>
      rw [hin, Bool.not_false, Bool.true_and] at hc
      walk_at "D"
      refine seq fun N hN => ?_
      walk_at "D"
      refine ⟨by omega, by omega, by rw [List.length_range, sizeL]; omega, ?_⟩
      refine comp_fmT _ (fun (k : Nat) => decide (gd b k < gd (topsL n G) k) && !inL G (raiseL b k)) (fun (k : Nat) => I (k : Int)) trivial _ _ ?_ ?_
      · intro k hk Q1 Q2 h
        rw [List.mem_range] at hk
        have k1 : k < b.length := by omega
        have k2 : k < (topsL n G).length := by rw [len_tops]; exact hk
        walk_at "D"
        simp only [atI_gd k1, atI_gd k2]
        by_cases hlt : gd b k < gd (topsL n G) k
        · simp only [hlt, decide_true, Bool.true_and] at h ⊢
          walk_at "D"
          refine ⟨b, k, rfl, k1, by omega, ?_⟩
          refine ⟨G, raiseL b k, n, rfl, hl, hn1, lG, len_raise lb hk, ?_⟩
          walk_at "D"
          cases e : inL G (raiseL b k) with
          | true => rw [e] at h; exact h
          | false => rw [e] at h; exact h
        · simp only [hlt, decide_false, Bool.false_and] at h ⊢
          walk_at "D"
          exact h
      · rw [ints_dv0]
        walk_at "D"
        refine hN _ _ ?_; clear hN N
        walk_at "D"
        refine ⟨by decide, ?_⟩
        generalize hfree : (List.range n).filter (fun k => decide (gd b k < gd (topsL n G) k) && !inL G (raiseL b k)) = fr' at hc ⊢
        by_cases hf : fr' = []
        · subst hf
          rw [decide_eq_true rfl] at hc
          rw [hc, if_pos rfl] at hnx
          simp only [List.map_nil, decide_true, if_true]
          walk_at "D"
          refine ⟨⟨_, hs⟩, by omega, by omega, by rw [List.length_range, sizeL]; omega, ?_⟩
          refine comp_mapT _ (fun (k : Nat) => I (if gd b k < gd (topsL n G) k then gd b k + 1 else 0)) trivial _ _ ?_ ?_
          · intro k hk Q1 h
            rw [List.mem_range] at hk
            have k1 : k < b.length := by omega
            have k2 : k < (topsL n G).length := by rw [len_tops]; exact hk
            walk_at "D"
            simp only [atI_gd k1, atI_gd k2]
            by_cases hlt : gd b k < gd (topsL n G) k
            · simp only [hlt, decide_true, if_true] at h ⊢
              exact h
            · simp only [hlt, decide_false, if_false] at h ⊢
              exact h
          · rw [ints_dv0]
            walk_at "D"
            refine ⟨_, hs, by simp only [List.length_map, sizeL]; omega, hL _ _ ⟨⟨_, _, rfl⟩, ?_, fun b hb => by rw [up_ne hb]; exact fr b hb⟩⟩
            rw [up_same, hnx]
            simp only [List.map_append, List.map_cons, List.map_nil]
            rfl
        · rw [decide_eq_false hf] at hc
          rw [hc, if_neg Bool.false_ne_true, List.append_nil] at hnx
          have : (fr'.map (fun (k : Nat) => (k : Int)) = []) = False := by simp [hf]
          simp only [this, decide_false]
          walk_at "D"
          exact hL _ _ ⟨⟨_, _, rfl⟩, by rw [hnx]; exact hs, fr⟩
  · rintro ε s ⟨⟨y4, y5, rfl⟩, hs, fr⟩
    refine hN _ _ ?_
    rw [List.take_length] at hs
    walk_at "D"
    simp only [hs]
    walk_at "D"
    refine ⟨alike_TIs _, sortX_TIs _, Nat.le_trans (List.length_filter_le _ _) hbx, depth_TIs, ?_⟩
    rw [show (((boxL (topsL n G)).filter (cornerB n G)).map (partL n (topsL n G)) |>.map TI).mergeSort leD = (compF n G).map TI by rw [← corn_eq fun g hg => (hG g hg).nn]; exact sort_nodup (nodup_cornF n G)]
    refine fg_le (fun a m e => ?_) K
    have ha : a ≠ q := fun z => by rw [z, hq] at e; cases e
    rw [fr a ha]
    exact le _ _ (by rw [up_ne ha]; exact e)
/-! a drawn ideal of any kind -/
theorem idl_nil (n w c : Nat) : Idl n w c [] := ⟨rfl, by simp, fun t ht => nomatch ht⟩
theorem idl_whole (n w c : Nat) (h : 1 ≤ c) : Idl n w c [List.replicate n 0] := ⟨min_one _, by simpa using h, fun t ht => by rw [List.mem_singleton.mp ht]; exact (mon_zero n).mono (by omega)⟩
def sp_law_any_ideal : SpD := fun xs st Q => ∃ (a : Addr) (B : Nat), xs = [.r a] ∧ B + 30000 < 2 ^ 50 ∧ DrawSt st a B ∧
  ∀ (n w : Nat) (G : List (List Int)) st', 1 ≤ n → n ≤ 4 → w ≤ 3 → (n = 4 → w ≤ 2) → Idl n w 6 G → DrawSt st' a (B + 30000) → (∀ b, b ≠ a → st' b = st b) → Q (.d (idl n G)) st'
theorem len_law_any_ideal : ∀ xs st Q, sp_law_any_ideal xs st Q → xs.length = 1 := by rintro xs st Q ⟨a, B, rfl, _⟩; rfl
theorem sem_law_any_ideal : ∀ xs st Q, sp_law_any_ideal xs st Q → rd_law_any_ideal sp_law_draw sp_law_ideal { nx := fun _ st' => Fg Q (.d .none) st', rt := Fg Q } (startD 3 xs) st := by
  rintro xs st Q ⟨a, B, rfl, hB, D, K⟩
  have e0 : startD 3 [.r a] = [some (.r a), none, none] := rfl
  rw [e0]
  unfold rd_law_any_ideal
  refine seq fun N hN => ?_
  walk_at "D"
  refine draw D (by omega) (by omega) (by omega) fun v s1 l1 u1 D1 f1 => ?_
  walk_at "D"
  refine draw D1 (by omega) (by omega) (by omega) fun v2 s2 l2 u2 D2 f2 => ?_
  walk_at "D"
  obtain ⟨n, hn⟩ : ∃ n : Nat, 1 + v = (n : Int) := ⟨(1 + v).toNat, by omega⟩
  rw [hn]
  have fr : ∀ b, b ≠ a → s2 b = st b := fun b hb => (f2 b hb).trans (f1 b hb)
  refine hN _ _ ?_; clear hN N
  refine seq fun N hN => ?_
  walk_at "D"
  by_cases c1 : v2 < 2
  · simp only [c1, decide_true, if_true]
    walk_at "D"
    by_cases c2 : v2 = 0
    · simp only [c2, decide_true, if_true]
      walk_at "D"
      exact ⟨by decide, by decide, fg_ret (K n 2 [] s2 (by omega) (by omega) (by decide) (fun _ => by decide) (idl_nil ..) (D2.mono (by omega)) fr)⟩
    · simp only [c2, decide_false]
      walk_at "D"
      exact ⟨by decide, by simp, by omega, by omega, by decide, by decide, by decide, fg_ret (K n 2 [List.replicate n 0] s2 (by omega) (by omega) (by decide) (fun _ => by decide) (idl_whole _ _ _ (by decide)) (D2.mono (by omega)) fr)⟩
  · simp only [c1, decide_false]
    walk_at "D"
    refine hN _ _ ?_; clear hN N
    walk_at "D"
    by_cases c3 : (n : Int) < 4
    · simp only [c3, decide_true, if_true]
      walk_at "D"
      refine ⟨a, n, 6, 3, _, rfl, by omega, by omega, by omega, by omega, by omega, by omega, D2, fun L s3 hL _ D3 f3 => ?_⟩
      exact fg_ret (K n 3 L s3 (by omega) (by omega) (by decide) (fun e => by omega) hL (D3.mono (by omega)) fun b hb => (f3 b hb).trans (fr b hb))
    · simp only [c3, decide_false]
      walk_at "D"
      refine ⟨a, n, 6, 2, _, rfl, by omega, by omega, by omega, by omega, by omega, by omega, D2, fun L s3 hL _ D3 f3 => ?_⟩
      exact fg_ret (K n 2 L s3 (by omega) (by omega) (by decide) (fun e => by omega) hL (D3.mono (by omega)) fun b hb => (f3 b hb).trans (fr b hb))
end UC
end

section
set_option linter.all false
set_option maxRecDepth 100000
set_option maxHeartbeats 1000000
namespace UC
open PySem L2 DL RD
/-! duals: plain -/
theorem nodup_map_of {α β : Type} {f : α → β} {l : List α} (nd : l.Nodup) (h : ∀ a ∈ l, ∀ b ∈ l, f a = f b → a = b) : (l.map f).Nodup :=
  List.pairwise_map.mpr (List.Pairwise.imp_of_mem (fun {a b} ha hb hne e => hne (h a ha b hb e)) nd)
theorem sortU_length {l : List (List Int)} (nd : l.Nodup) : (sortU l).length = l.length := by
  have : (sortU l).Perm l := (List.perm_ext_iff_of_nodup (ris_nodup (ris_sortU l)) nd).mpr fun x => mem_sortU
  exact this.length_eq
/-- those below a monomial, exponent by exponent -/
def Bel (n : Nat) (c a : List Int) : Prop := a.length = n ∧ ∀ j < n, 0 ≤ gd a j ∧ gd a j ≤ gd c j
theorem nn_of_gd {n : Nat} {a : List Int} (h : a.length = n) (k : ∀ j < n, 0 ≤ gd a j) : NN n a := ⟨h, fun x hx => by
  obtain ⟨j, hj, rfl⟩ := List.mem_iff_getElem.mp hx
  rw [gd_eq hj]
  exact k j (by omega)⟩
theorem Bel.nn {n : Nat} {c a : List Int} (h : Bel n c a) : NN n a := nn_of_gd h.1 fun j hj => (h.2 j hj).1
theorem bel_of {n : Nat} {c a : List Int} (ha : NN n a) (hc : c.length = n) (h : divB a c = true) : Bel n c a := ⟨ha.1, fun j hj => ⟨ha.at hj, (divB_iff ha.1 hc).mp h j hj⟩⟩
theorem bel_fold {n : Nat} {c : List Int} (hc : NN n c) : ∀ (G F : List (List Int)), (∀ g ∈ G, Bel n c g) → (∀ a ∈ F, Bel n c a) → ∀ a ∈ G.foldl stepC F, Bel n c a
  | [], F, _, h => h
  | g :: G, F, hG, hF => by
    refine bel_fold hc G (stepC F g) (fun x hx => hG x (List.mem_cons_of_mem _ hx)) fun x hx => ?_
    obtain ⟨p, hp, hx⟩ := List.mem_flatMap.mp (mem_idleL.mp hx).1
    have hg := hG g List.mem_cons_self
    rcases (mem_splitL hg.1).mp hx with ⟨_, rfl⟩ | ⟨_, j, hj, _, rfl⟩
    · exact hF x hp
    · refine ⟨len_setI (hF p hp).1 hj, fun i hi => ?_⟩
      rw [gd_setI (hF p hp).1 hj hi]
      split
      · rename_i e; subst e; exact hg.2 i hi
      · exact (hF p hp).2 i hi
theorem bel_compF {n : Nat} {c : List Int} {G : List (List Int)} (hc : NN n c) (hG : ∀ g ∈ G, Bel n c g) : ∀ a ∈ compF n G, Bel n c a :=
  bel_fold hc G _ hG fun a ha => by
    rw [List.mem_singleton.mp ha]
    exact ⟨List.length_replicate .., fun j hj => by rw [gd_rep hj]; exact ⟨Int.le_refl _, hc.at hj⟩⟩
def turnL (p c : List Int) : List Int := List.zipWith (fun e t => if 0 < e then t + 1 - e else 0) p c
theorem len_turn {n : Nat} {p c : List Int} (hp : p.length = n) (hc : c.length = n) : (turnL p c).length = n := len_zw hp hc
theorem gd_turn {n j : Nat} {p c : List Int} (hp : p.length = n) (hc : c.length = n) (hj : j < n) : gd (turnL p c) j = if 0 < gd p j then gd c j + 1 - gd p j else 0 := gd_zw hp hc hj
theorem bel_turn {n : Nat} {p c : List Int} (hp : Bel n c p) (hc : NN n c) : Bel n c (turnL p c) := ⟨len_turn hp.1 hc.1, fun j hj => by
  rw [gd_turn hp.1 hc.1 hj]
  have := hp.2 j hj
  split <;> omega⟩
theorem turn_turn {n : Nat} {p c : List Int} (hp : Bel n c p) (hc : NN n c) : turnL (turnL p c) c = p := by
  have l1 := len_turn hp.1 hc.1
  rw [gd_ext (len_turn l1 hc.1) hp.1]
  intro j hj
  rw [gd_turn l1 hc.1 hj, gd_turn hp.1 hc.1 hj]
  have := hp.2 j hj
  split
  · rw [if_pos (by omega)]; omega
  · rw [if_neg (by omega)]; omega
theorem turn_div {n : Nat} {p q c : List Int} (hp : Bel n c p) (hq : Bel n c q) (hc : NN n c) : divB (turnL p c) (turnL q c) = true ↔ aroundB q p = true := by
  rw [divB_iff (len_turn hp.1 hc.1) (len_turn hq.1 hc.1), around_iff hq.1 hp.1]
  constructor
  · intro h j hj h0
    have := h j hj
    rw [gd_turn hp.1 hc.1 hj, gd_turn hq.1 hc.1 hj, if_pos h0] at this
    have a := hp.2 j hj
    have b := hq.2 j hj
    split at this <;> omega
  · intro h j hj
    rw [gd_turn hp.1 hc.1 hj, gd_turn hq.1 hc.1 hj]
    have a := hp.2 j hj
    have b := hq.2 j hj
    by_cases h0 : 0 < gd p j
    · have := h j hj h0
      rw [if_pos h0, if_pos this.1]
      omega
    · rw [if_neg h0]
      split <;> omega
theorem min_anti {S : List (List Int)} (h : ∀ s ∈ S, ∀ t ∈ S, divB s t = true → s = t) : minL S = sortU S := by
  unfold minL
  rw [List.filter_eq_self]
  intro a ha
  rw [decide_eq_true_eq, List.filter_eq_nil_iff]
  intro b hb hh
  simp only [Bool.and_eq_true, decide_eq_true_eq] at hh
  exact hh.1 (h b (mem_sortU.mp hb) a (mem_sortU.mp ha) hh.2)
def dualL (n : Nat) (G : List (List Int)) (c : List Int) : List (List Int) := minL ((compF n G).map fun p => turnL p c)
section
variable {n : Nat} {G : List (List Int)} {c : List Int}
theorem dual_anti (hc : NN n c) (hG : ∀ g ∈ G, Bel n c g) : ∀ s ∈ (compF n G).map (fun p => turnL p c), ∀ t ∈ (compF n G).map (fun p => turnL p c), divB s t = true → s = t := by
  intro s hs t ht h
  obtain ⟨p, hp, rfl⟩ := List.mem_map.mp hs
  obtain ⟨q, hq, rfl⟩ := List.mem_map.mp ht
  have b := bel_compF hc hG
  rw [(comp_compF fun g hg => (hG g hg).nn).anti q hq p hp ((turn_div (b p hp) (b q hq) hc).mp h)]
theorem dual_sort (hc : NN n c) (hG : ∀ g ∈ G, Bel n c g) : dualL n G c = sortU ((compF n G).map fun p => turnL p c) := min_anti (dual_anti hc hG)
theorem dual_nodup (hc : NN n c) (hG : ∀ g ∈ G, Bel n c g) : ((compF n G).map fun p => turnL p c).Nodup :=
  nodup_map_of (ris_nodup (ris_compF n G)) fun p hp q hq e => by
    have b := bel_compF hc hG
    rw [← turn_turn (b p hp) hc, e, turn_turn (b q hq) hc]
theorem dual_len (hc : NN n c) (hG : ∀ g ∈ G, Bel n c g) : (dualL n G c).length = (compF n G).length := by
  rw [dual_sort hc hG, sortU_length (dual_nodup hc hG), List.length_map]
theorem mem_dual (hc : NN n c) (hG : ∀ g ∈ G, Bel n c g) {d : List Int} : d ∈ dualL n G c ↔ ∃ p ∈ compF n G, turnL p c = d := by
  rw [dual_sort hc hG, mem_sortU, List.mem_map]
theorem dual_bel (hc : NN n c) (hG : ∀ g ∈ G, Bel n c g) : ∀ d ∈ dualL n G c, Bel n c d := fun d hd => by
  obtain ⟨p, hp, rfl⟩ := (mem_dual hc hG).mp hd
  exact bel_turn (bel_compF hc hG p hp) hc
theorem dual_red (hc : NN n c) (hG : ∀ g ∈ G, Bel n c g) : minL (dualL n G c) = dualL n G c := min_idem fun d hd => by
  obtain ⟨p, hp, rfl⟩ := List.mem_map.mp hd
  exact len_turn (bel_compF hc hG p hp).1 hc.1
/-- what the dual holds -/
theorem in_dual (hc : NN n c) (hG : ∀ g ∈ G, Bel n c g) {b : List Int} (hb : Bel n c b) : inL (dualL n G c) b = !inL G (cutL c b) := by
  have C := comp_compF fun g hg => (hG g hg).nn
  have B := bel_compF hc hG
  have nb := hb.nn
  have lcut : NN n (cutL c b) := nn_cut hc nb
  have key : inL (dualL n G c) b = true ↔ ¬ inL G (cutL c b) = true := by
    rw [C.inside (fun g hg => (hG g hg).1) lcut, inL_iff]
    constructor
    · rintro ⟨d, hd, h⟩ hall
      obtain ⟨p, hp, rfl⟩ := (mem_dual hc hG).mp hd
      obtain ⟨j, hj, h1, h2⟩ := (holds_iff (B p hp).1 lcut.1).mp (hall p hp)
      have := (divB_iff (len_turn (B p hp).1 hc.1) hb.1).mp h j hj
      rw [gd_turn (B p hp).1 hc.1 hj, if_pos h1] at this
      unfold cutL at h2
      rw [gd_zw hc.1 hb.1 hj] at h2
      omega
    · intro hno
      obtain ⟨p, hp, h⟩ : ∃ p ∈ compF n G, ¬ holdsB p (cutL c b) = true := Classical.byContradiction fun z => hno fun p hp => Classical.byContradiction fun y => z ⟨p, hp, y⟩
      refine ⟨turnL p c, (mem_dual hc hG).mpr ⟨p, hp, rfl⟩, (divB_iff (len_turn (B p hp).1 hc.1) hb.1).mpr fun j hj => ?_⟩
      rw [gd_turn (B p hp).1 hc.1 hj]
      have b1 := hb.2 j hj
      split
      · rename_i h0
        refine Classical.byContradiction fun hlt => h ((holds_iff (B p hp).1 lcut.1).mpr ⟨j, hj, h0, ?_⟩)
        unfold cutL
        rw [gd_zw hc.1 hb.1 hj]
        omega
      · omega
  rw [Bool.eq_iff_iff, key]
  simp
/-- the components of the dual are the generators, turned -/
theorem comp_dual (hc : NN n c) (hG : ∀ g ∈ G, Bel n c g) (mG : minL G = G) : Comp n (dualL n G c) (G.map fun g => turnL g c) := by
  have C := comp_compF fun g hg => (hG g hg).nn
  have B := bel_compF hc hG
  have lG : ∀ g ∈ G, g.length = n := fun g hg => (hG g hg).1
  refine ⟨fun t ht => ?_, fun t ht d hd => ?_, fun q hq hall => ?_, fun s hs t ht h => ?_⟩
  · obtain ⟨g, hg, rfl⟩ := List.mem_map.mp ht
    exact (bel_turn (hG g hg) hc).nn
  · obtain ⟨g, hg, rfl⟩ := List.mem_map.mp ht
    obtain ⟨p, hp, rfl⟩ := (mem_dual hc hG).mp hd
    obtain ⟨j, hj, h1, h2⟩ := (holds_iff (B p hp).1 (lG g hg)).mp (C.up p hp g hg)
    have := (hG g hg).2 j hj
    refine (holds_iff (len_turn (lG g hg) hc.1) (len_turn (B p hp).1 hc.1)).mpr ⟨j, hj, ?_, ?_⟩
    · rw [gd_turn (lG g hg) hc.1 hj, if_pos (by omega)]; omega
    · rw [gd_turn (lG g hg) hc.1 hj, gd_turn (B p hp).1 hc.1 hj, if_pos (by omega), if_pos h1]; omega
  · let b : List Int := (List.range n).map fun j => if 0 < gd q j ∧ gd q j ≤ gd c j then gd c j + 1 - gd q j else 0
    have lb : b.length = n := by show (List.map _ _).length = n; rw [List.length_map, List.length_range]
    have gb : ∀ j < n, gd b j = if 0 < gd q j ∧ gd q j ≤ gd c j then gd c j + 1 - gd q j else 0 := fun j hj => by
      rw [← gd_eq (by rw [lb]; exact hj)]
      show (List.map _ _)[j] = _
      rw [List.getElem_map, List.getElem_range]
    have nb : NN n b := nn_of_gd lb fun j hj => by
      rw [gb j hj]
      split <;> omega
    have hin : inL G b = true := (C.inside lG nb).mpr fun p hp => by
      obtain ⟨j, hj, h1, h2⟩ := (holds_iff hq.1 (len_turn (B p hp).1 hc.1)).mp (hall _ ((mem_dual hc hG).mpr ⟨p, hp, rfl⟩))
      rw [gd_turn (B p hp).1 hc.1 hj] at h2
      split at h2
      · rename_i h3
        refine (holds_iff (B p hp).1 lb).mpr ⟨j, hj, h3, ?_⟩
        rw [gb j hj, if_pos (by omega)]
        omega
      · omega
    obtain ⟨g, hg, hd⟩ := inL_iff.mp hin
    refine ⟨turnL g c, List.mem_map.mpr ⟨g, hg, rfl⟩, (around_iff hq.1 (len_turn (lG g hg) hc.1)).mpr fun j hj h0 => ?_⟩
    rw [gd_turn (lG g hg) hc.1 hj] at h0 ⊢
    have := (divB_iff (lG g hg) lb).mp hd j hj
    rw [gb j hj] at this
    split at h0
    · rename_i h1
      rw [if_pos h1]
      split at this <;> omega
    · omega
  · obtain ⟨g, hg, rfl⟩ := List.mem_map.mp hs
    obtain ⟨k, hk, rfl⟩ := List.mem_map.mp ht
    have h2 : aroundB (turnL g c) (turnL k c) = true → divB k g = true := fun h => by
      have := (turn_div (bel_turn (hG k hk) hc) (bel_turn (hG g hg) hc) hc).mpr h
      rw [turn_turn (hG k hk) hc, turn_turn (hG g hg) hc] at this
      exact this
    have M := mins_minL lG
    rw [mG] at M
    rw [M.anti k hk g hg (h2 h)]
theorem comp_of_dual (hc : NN n c) (hG : ∀ g ∈ G, Bel n c g) (mG : minL G = G) : compF n (dualL n G c) = sortU (G.map fun g => turnL g c) :=
  (sortU_eq (ris_compF n _) fun x => ((comp_dual hc hG mG).same (comp_compF fun d hd => (dual_bel hc hG d hd).nn)) x).symm
theorem ris_of_min (mG : minL G = G) : RisL G := by
  rw [← mG]
  exact (ris_sortU G).sublist List.filter_sublist
theorem dual_dual (hc : NN n c) (hG : ∀ g ∈ G, Bel n c g) (mG : minL G = G) : dualL n (dualL n G c) c = G := by
  rw [dual_sort hc (dual_bel hc hG), comp_of_dual hc hG mG]
  refine sortU_eq (ris_of_min mG) fun x => ?_
  rw [List.mem_map]
  constructor
  · rintro ⟨t, ht, rfl⟩
    obtain ⟨g, hg, rfl⟩ := List.mem_map.mp (mem_sortU.mp ht)
    rw [turn_turn (hG g hg) hc]
    exact hg
  · intro hx
    exact ⟨turnL x c, mem_sortU.mpr (List.mem_map.mpr ⟨x, hx, rfl⟩), turn_turn (hG x hx) hc⟩
theorem len_comp_dual (hc : NN n c) (hG : ∀ g ∈ G, Bel n c g) (mG : minL G = G) : (compF n (dualL n G c)).length = G.length := by
  rw [comp_of_dual hc hG mG, sortU_length (nodup_map_of (ris_nodup (ris_of_min mG)) fun p hp q hq e => by rw [← turn_turn (hG p hp) hc, e, turn_turn (hG q hq) hc]), List.length_map]
end
/-- an antichain is told by all exponents but the last -/
theorem comp_anti_len {n w : Nat} {G : List (List Int)} (h1 : 1 ≤ n) (hG : ∀ g ∈ G, Mon n w g) : (compF n G).length ≤ (w + 1) ^ (n - 1) := by
  have C := comp_compF fun g hg => (hG g hg).nn
  have M := mon_compF hG
  have nd : ((compF n G).map fun p => p.take (n - 1)).Nodup := nodup_map_of (ris_nodup (ris_compF n G)) fun p hp q hq e => by
    have lp := (M p hp).1
    have lq := (M q hq).1
    have eg : ∀ j < n - 1, gd p j = gd q j := fun j hj => by
      have := congrArg (fun z => gd z j) e
      unfold gd at this ⊢
      simp only [List.getD_eq_getElem?_getD, List.getElem?_take_of_lt hj] at this
      rw [List.getD_eq_getElem?_getD, List.getD_eq_getElem?_getD]
      exact this
    have np := C.nn p hp
    have nq := C.nn q hq
    have hl := np.at (j := n - 1) (by omega)
    have hl2 := nq.at (j := n - 1) (by omega)
    by_cases h : 0 < gd p (n - 1) ∧ (gd p (n - 1) ≤ gd q (n - 1) ∨ gd q (n - 1) = 0)
    · refine C.anti p hp q hq ((around_iff lp lq).mpr fun j hj h0 => ?_)
      by_cases z : j < n - 1
      · rw [eg j z]; exact ⟨h0, Int.le_refl _⟩
      · have : j = n - 1 := by omega
        subst this
        omega
    · refine (C.anti q hq p hp ((around_iff lq lp).mpr fun j hj h0 => ?_)).symm
      by_cases z : j < n - 1
      · rw [← eg j z]; exact ⟨h0, Int.le_refl _⟩
      · have : j = n - 1 := by omega
        subst this
        omega
  have := nodup_count (n := n - 1) (w := w) nd fun a ha => by
    obtain ⟨p, hp, rfl⟩ := List.mem_map.mp ha
    refine ⟨by rw [List.length_take, (M p hp).1]; omega, fun x hx => (M p hp).2 x (List.mem_of_mem_take hx)⟩
  rw [List.length_map] at this
  exact this
theorem anti_lenN {X : List (List Int)} {n w : Nat} (h1 : 1 ≤ n) (hX : minL X = X) (hm : ∀ a ∈ X, Mon n w a) : X.length ≤ (w + 1) ^ (n - 1) := by
  have lX : ∀ a ∈ X, a.length = n := fun a ha => (hm a ha).1
  have M := mins_minL lX
  rw [hX] at M
  have nd : (X.map fun p => p.take (n - 1)).Nodup := nodup_map_of (ris_nodup M.ris) fun p hp q hq e => by
    have lp := lX p hp
    have lq := lX q hq
    have eg : ∀ j < n - 1, gd p j = gd q j := fun j hj => by
      have := congrArg (fun z => gd z j) e
      unfold gd at this ⊢
      simp only [List.getD_eq_getElem?_getD, List.getElem?_take_of_lt hj] at this
      rw [List.getD_eq_getElem?_getD, List.getD_eq_getElem?_getD]
      exact this
    by_cases h : gd p (n - 1) ≤ gd q (n - 1)
    · refine M.anti p hp q hq ((divB_iff lp lq).mpr fun j hj => ?_)
      by_cases z : j < n - 1
      · rw [eg j z]; exact Int.le_refl _
      · have : j = n - 1 := by omega
        subst this
        exact h
    · refine (M.anti q hq p hp ((divB_iff lq lp).mpr fun j hj => ?_)).symm
      by_cases z : j < n - 1
      · rw [eg j z]; exact Int.le_refl _
      · have : j = n - 1 := by omega
        subst this
        omega
  have := nodup_count (n := n - 1) (w := w) nd fun a ha => by
    obtain ⟨p, hp, rfl⟩ := List.mem_map.mp ha
    refine ⟨by rw [List.length_take, lX p hp]; omega, fun x hx => (hm p hp).2 x (List.mem_of_mem_take hx)⟩
  rw [List.length_map] at this
  exact this
end UC
end

section
set_option linter.all false
set_option maxRecDepth 100000
set_option maxHeartbeats 1000000
namespace UC
open PySem L2 DL RD
/-! variables listed anew -/
structure PermOk (n : Nat) (ls : List Nat) (r : Nat → Nat) : Prop where
  len : ls.length = n
  lt : ∀ j < n, ls.getD j 0 < n
  inv : ∀ i < n, r i < n ∧ ls.getD (r i) 0 = i
  back : ∀ j < n, r (ls.getD j 0) = j
def permL (ls : List Nat) (a : List Int) : List Int := ls.map fun k => gd a k
theorem len_perm {n : Nat} {ls : List Nat} {r : Nat → Nat} (P : PermOk n ls r) {a : List Int} : (permL ls a).length = n := by
  unfold permL
  rw [List.length_map]
  exact P.len
theorem gd_perm {n : Nat} {ls : List Nat} {r : Nat → Nat} (P : PermOk n ls r) {a : List Int} {j : Nat} (hj : j < n) : gd (permL ls a) j = gd a (ls.getD j 0) := by
  have h : j < ls.length := by rw [P.len]; exact hj
  rw [← gd_eq (a := permL ls a) (by rw [len_perm P]; exact hj)]
  unfold permL
  rw [List.getElem_map, List.getD_eq_getElem?_getD, List.getElem?_eq_getElem h]
  rfl
theorem nn_perm {n : Nat} {ls : List Nat} {r : Nat → Nat} (P : PermOk n ls r) {a : List Int} (ha : NN n a) : NN n (permL ls a) :=
  nn_of_gd (len_perm P) fun j hj => by
    rw [gd_perm P hj]
    exact ha.at (P.lt j hj)
theorem perm_div {n : Nat} {ls : List Nat} {r : Nat → Nat} (P : PermOk n ls r) {a b : List Int} (ha : a.length = n) (hb : b.length = n) : divB (permL ls a) (permL ls b) = true ↔ divB a b = true := by
  rw [divB_iff (len_perm P) (len_perm P), divB_iff ha hb]
  constructor
  · intro h i hi
    obtain ⟨h1, h2⟩ := P.inv i hi
    have := h (r i) h1
    rw [gd_perm P h1, gd_perm P h1, h2] at this
    exact this
  · intro h j hj
    rw [gd_perm P hj, gd_perm P hj]
    exact h _ (P.lt j hj)
theorem perm_inj {n : Nat} {ls : List Nat} {r : Nat → Nat} (P : PermOk n ls r) {a b : List Int} (ha : a.length = n) (hb : b.length = n) (h : permL ls a = permL ls b) : a = b :=
  divB_anti ha hb ((perm_div P ha hb).mp (h ▸ divB_refl _)) ((perm_div P hb ha).mp (h ▸ divB_refl _))
theorem perm_around {n : Nat} {ls : List Nat} {r : Nat → Nat} (P : PermOk n ls r) {a b : List Int} (ha : a.length = n) (hb : b.length = n) : aroundB (permL ls a) (permL ls b) = true ↔ aroundB a b = true := by
  rw [around_iff (len_perm P) (len_perm P), around_iff ha hb]
  constructor
  · intro h i hi
    obtain ⟨h1, h2⟩ := P.inv i hi
    have := h (r i) h1
    rw [gd_perm P h1, gd_perm P h1, h2] at this
    exact this
  · intro h j hj
    rw [gd_perm P hj, gd_perm P hj]
    exact h _ (P.lt j hj)
theorem keeps_perm {n : Nat} {ls : List Nat} {r : Nat → Nat} (P : PermOk n ls r) : Keeps n (permL ls) := ⟨fun a ha => nn_perm P ha, fun a b ha hb h => (perm_div P ha.1 hb.1).mpr h⟩
section
variable {n : Nat} {ls : List Nat} {r : Nat → Nat} {A : List (List Int)}
/-- the permuted ideal -/
def permS (ls : List Nat) (A : List (List Int)) : List (List Int) := A.map (permL ls)
theorem perm_sort (P : PermOk n ls r) (lA : NNs n A) (mA : minL A = A) : minL (permS ls A) = sortU (permS ls A) := min_anti fun s hs t ht h => by
  obtain ⟨a, ha, rfl⟩ := List.mem_map.mp hs
  obtain ⟨b, hb, rfl⟩ := List.mem_map.mp ht
  have M := mins_minL lA.len
  rw [mA] at M
  rw [M.anti a ha b hb ((perm_div P (lA a ha).1 (lA b hb).1).mp h)]
theorem perm_nodup (P : PermOk n ls r) (lA : NNs n A) (nd : A.Nodup) : (permS ls A).Nodup := nodup_map_of nd fun a ha b hb e => perm_inj P (lA a ha).1 (lA b hb).1 e
theorem comp_perm (P : PermOk n ls r) (lA : NNs n A) : Comp n (minL (permS ls A)) (permS ls (compF n A)) := by
  have C := comp_compF lA
  have lP : NNs n (permS ls A) := lA.map (keeps_perm P)
  refine ⟨C.nn.map (keeps_perm P), fun p' hp' g' hg' => ?_, fun q hq hall => ?_, fun p' hp' q' hq' h => ?_⟩
  · obtain ⟨p, hp, rfl⟩ := List.mem_map.mp hp'
    obtain ⟨g, hg, rfl⟩ := List.mem_map.mp (min_sub _ hg')
    obtain ⟨i, hi, h1, h2⟩ := (holds_iff (C.nn p hp).1 (lA g hg).1).mp (C.up p hp g hg)
    obtain ⟨h3, h4⟩ := P.inv i hi
    exact (holds_iff (len_perm P) (len_perm P)).mpr ⟨r i, h3, by rw [gd_perm P h3, h4]; exact h1, by rw [gd_perm P h3, gd_perm P h3, h4]; exact h2⟩
  · let q' : List Int := (List.range n).map fun i => gd q (r i)
    have lq : q'.length = n := by show (List.map _ _).length = n; rw [List.length_map, List.length_range]
    have gq : ∀ i < n, gd q' i = gd q (r i) := fun i hi => by
      rw [← gd_eq (by rw [lq]; exact hi)]
      show (List.map _ _)[i] = _
      rw [List.getElem_map, List.getElem_range]
    have nq : NN n q' := nn_of_gd lq fun i hi => by rw [gq i hi]; exact hq.at (P.inv i hi).1
    obtain ⟨p, hp, h⟩ := C.all q' nq fun g hg => by
      obtain ⟨g', h1, h2⟩ := (mins_minL lP.len).cov (permL ls g) (List.mem_map.mpr ⟨g, hg, rfl⟩)
      have h3 := holds_up hq.1 (lP.min g' h1).1 (len_perm P) h2 (hall g' h1)
      obtain ⟨j, hj, h4, h5⟩ := (holds_iff hq.1 (len_perm P)).mp h3
      rw [gd_perm P hj] at h5
      exact (holds_iff lq (lA g hg).1).mpr ⟨ls.getD j 0, P.lt j hj, by rw [gq _ (P.lt j hj), P.back j hj]; exact h4, by rw [gq _ (P.lt j hj), P.back j hj]; exact h5⟩
    refine ⟨permL ls p, List.mem_map.mpr ⟨p, hp, rfl⟩, (around_iff hq.1 (len_perm P)).mpr fun j hj h0 => ?_⟩
    rw [gd_perm P hj] at h0 ⊢
    have := (around_iff lq (C.nn p hp).1).mp h _ (P.lt j hj) h0
    rw [gq _ (P.lt j hj), P.back j hj] at this
    exact this
  · obtain ⟨p, hp, rfl⟩ := List.mem_map.mp hp'
    obtain ⟨q, hq, rfl⟩ := List.mem_map.mp hq'
    rw [C.anti p hp q hq ((perm_around P (C.nn p hp).1 (C.nn q hq).1).mp h)]
theorem compF_perm (P : PermOk n ls r) (lA : NNs n A) : compF n (minL (permS ls A)) = sortU (permS ls (compF n A)) :=
  (sortU_eq (ris_compF n _) fun x => ((comp_perm P lA).same (comp_compF (lA.map (keeps_perm P)).min)) x).symm
theorem perm_turn (P : PermOk n ls r) {p c : List Int} (hp : p.length = n) (hc : c.length = n) : turnL (permL ls p) (permL ls c) = permL ls (turnL p c) := by
  rw [gd_ext (len_turn (len_perm P) (len_perm P)) (len_perm P)]
  intro j hj
  rw [gd_turn (len_perm P) (len_perm P) hj, gd_perm P hj, gd_perm P hj, gd_perm P hj, gd_turn hp hc (P.lt j hj)]
theorem bel_perm (P : PermOk n ls r) {a c : List Int} (h : Bel n c a) : Bel n (permL ls c) (permL ls a) := ⟨len_perm P, fun j hj => by
  rw [gd_perm P hj, gd_perm P hj]
  exact h.2 _ (P.lt j hj)⟩
theorem dual_perm (P : PermOk n ls r) {c : List Int} (hc : NN n c) (hA : ∀ a ∈ A, Bel n c a) : dualL n (minL (permS ls A)) (permL ls c) = minL (permS ls (dualL n A c)) := by
  have lA : NNs n A := fun a ha => (hA a ha).nn
  have bP : ∀ a ∈ minL (permS ls A), Bel n (permL ls c) a := fun a ha => by
    obtain ⟨b, hb, rfl⟩ := List.mem_map.mp (min_sub a ha)
    exact bel_perm P (hA b hb)
  have B := bel_compF hc hA
  rw [dual_sort (nn_perm P hc) bP, perm_sort P (fun d hd => (dual_bel hc hA d hd).nn) (dual_red hc hA), compF_perm P lA]
  refine sortU_eq (ris_sortU _) fun x => ?_
  rw [mem_sortU]
  unfold permS
  rw [List.mem_map, List.mem_map]
  constructor
  · rintro ⟨p', hp', rfl⟩
    obtain ⟨p, hp, rfl⟩ := List.mem_map.mp (mem_sortU.mp hp')
    exact ⟨turnL p c, (mem_dual hc hA).mpr ⟨p, hp, rfl⟩, (perm_turn P (B p hp).1 hc.1).symm⟩
  · rintro ⟨d, hd, rfl⟩
    obtain ⟨p, hp, rfl⟩ := (mem_dual hc hA).mp hd
    exact ⟨permL ls p, mem_sortU.mpr (List.mem_map.mpr ⟨p, hp, rfl⟩), perm_turn P (B p hp).1 hc.1⟩
end
/-- a turn of the variables -/
def rotL (n t : Nat) : List Nat := (List.range n).map fun s => (s + t) % n
theorem rot_ok {n t : Nat} (ht : t < n) : PermOk n (rotL n t) fun i => if t ≤ i then i - t else i + n - t := by
  have g : ∀ j, j < n → (rotL n t).getD j 0 = if j + t < n then j + t else j + t - n := fun j hj => by
    unfold rotL
    rw [List.getD_eq_getElem?_getD, List.getElem?_map, List.getElem?_range hj]
    show (j + t) % n = _
    split
    · exact Nat.mod_eq_of_lt (by assumption)
    · rw [Nat.mod_eq_sub_mod (by omega), Nat.mod_eq_of_lt (by omega)]
  refine ⟨by unfold rotL; rw [List.length_map, List.length_range], fun j hj => ?_, fun i hi => ?_, fun j hj => ?_⟩
  · rw [g j hj]; split <;> omega
  · split
    · refine ⟨by omega, ?_⟩
      rw [g _ (by omega)]
      split <;> omega
    · refine ⟨by omega, ?_⟩
      rw [g _ (by omega)]
      split <;> omega
  · rw [g j hj]
    show (if t ≤ _ then _ else _) = j
    split <;> split <;> omega
/-! below a monomial -/
theorem red_ext_box {n : Nat} {c : List Int} {X Y : List (List Int)} (hX : minL X = X) (hY : minL Y = Y) (bX : ∀ a ∈ X, Bel n c a) (bY : ∀ a ∈ Y, Bel n c a) (h : ∀ b, Bel n c b → inL X b = inL Y b) : X = Y := by
  rw [← hX, ← hY]
  refine min_cong (fun a ha => (bX a ha).1) (fun a ha => (bY a ha).1) (fun s hs => ?_) fun s hs => ?_
  · exact inL_iff.mp (by rw [← h s (bX s hs)]; exact inL_iff.mpr ⟨s, hs, divB_refl s⟩)
  · exact inL_iff.mp (by rw [h s (bY s hs)]; exact inL_iff.mpr ⟨s, hs, divB_refl s⟩)
theorem within_box {n : Nat} {c : List Int} {X Y : List (List Int)} (bX : ∀ a ∈ X, Bel n c a) (bY : ∀ a ∈ Y, Bel n c a) : (X.all fun g => inL Y g) = true ↔ ∀ b, Bel n c b → inL X b = true → inL Y b = true := by
  rw [List.all_eq_true]
  constructor
  · intro h b hb hx
    obtain ⟨a, ha, hd⟩ := inL_iff.mp hx
    exact in_up (fun y hy => (bY y hy).1) (bX a ha).1 hb.1 hd (h a ha)
  · intro h a ha
    exact h a (bX a ha) (inL_iff.mpr ⟨a, ha, divB_refl a⟩)
theorem bel_cut {n : Nat} {c b : List Int} (hc : NN n c) (hb : Bel n c b) : Bel n c (cutL c b) ∧ cutL c (cutL c b) = b := by
  have l1 := lenCut hc.1 hb.1
  have g1 : ∀ j < n, gd (cutL c b) j = gd c j - gd b j := fun j hj => by
    unfold cutL
    rw [gd_zw hc.1 hb.1 hj]
    have := hb.2 j hj
    omega
  refine ⟨⟨l1, fun j hj => ?_⟩, ?_⟩
  · rw [g1 j hj]
    have := hb.2 j hj
    omega
  · refine (gd_ext (lenCut hc.1 l1) hb.1).mpr fun j hj => ?_
    show gd (List.zipWith _ c (cutL c b)) j = _
    rw [gd_zw hc.1 l1 hj, g1 j hj]
    have := hb.2 j hj
    omega
section
variable {n : Nat} {c : List Int} {A B : List (List Int)}
theorem bel_app (hA : ∀ a ∈ A, Bel n c a) (hB : ∀ a ∈ B, Bel n c a) : ∀ a ∈ minL (A ++ B), Bel n c a := fun a ha => (List.mem_append.mp (min_sub a ha)).elim (hA a) (hB a)
theorem bel_lcm (hA : ∀ a ∈ A, Bel n c a) (hB : ∀ a ∈ B, Bel n c a) : ∀ a ∈ minL (pairL lcmL A B), Bel n c a := fun a ha => by
  obtain ⟨x, hx, y, hy, rfl⟩ := mem_pairL.mp (min_sub a ha)
  refine ⟨lenLcm (hA x hx).1 (hB y hy).1, fun j hj => ?_⟩
  show 0 ≤ gd (List.zipWith _ x y) j ∧ gd (List.zipWith _ x y) j ≤ _
  rw [gd_zw (hA x hx).1 (hB y hy).1 hj]
  have := (hA x hx).2 j hj
  have := (hB y hy).2 j hj
  omega
theorem dual_of_sum (hc : NN n c) (hA : ∀ a ∈ A, Bel n c a) (hB : ∀ a ∈ B, Bel n c a) : dualL n (minL (A ++ B)) c = minL (pairL lcmL (dualL n A c) (dualL n B c)) := by
  have l1 : ∀ a ∈ A, a.length = n := fun a ha => (hA a ha).1
  have l2 : ∀ a ∈ B, a.length = n := fun a ha => (hB a ha).1
  have d1 := dual_bel hc hA
  have d2 := dual_bel hc hB
  have ld1 : ∀ a ∈ dualL n A c, a.length = n := fun a ha => (d1 a ha).1
  have ld2 : ∀ a ∈ dualL n B c, a.length = n := fun a ha => (d2 a ha).1
  refine red_ext_box (dual_red hc (bel_app hA hB)) (min_idem (lcm_lens ld1 ld2)) (dual_bel hc (bel_app hA hB)) (bel_lcm d1 d2) fun b hb => ?_
  have lb := (bel_cut hc hb).1.1
  rw [in_dual hc (bel_app hA hB) hb, in_app l1 l2 lb, in_meet ld1 ld2 hb.1, in_dual hc hA hb, in_dual hc hB hb]
  cases inL A (cutL c b) <;> cases inL B (cutL c b) <;> rfl
theorem dual_of_meet (hc : NN n c) (hA : ∀ a ∈ A, Bel n c a) (hB : ∀ a ∈ B, Bel n c a) : dualL n (minL (pairL lcmL A B)) c = minL (dualL n A c ++ dualL n B c) := by
  have l1 : ∀ a ∈ A, a.length = n := fun a ha => (hA a ha).1
  have l2 : ∀ a ∈ B, a.length = n := fun a ha => (hB a ha).1
  have d1 := dual_bel hc hA
  have d2 := dual_bel hc hB
  have ld1 : ∀ a ∈ dualL n A c, a.length = n := fun a ha => (d1 a ha).1
  have ld2 : ∀ a ∈ dualL n B c, a.length = n := fun a ha => (d2 a ha).1
  refine red_ext_box (dual_red hc (bel_lcm hA hB)) (min_idem (app_lens ld1 ld2)) (dual_bel hc (bel_lcm hA hB)) (bel_app d1 d2) fun b hb => ?_
  have lb := (bel_cut hc hb).1.1
  rw [in_dual hc (bel_lcm hA hB) hb, in_meet l1 l2 lb, in_app ld1 ld2 hb.1, in_dual hc hA hb, in_dual hc hB hb]
  cases inL A (cutL c b) <;> cases inL B (cutL c b) <;> rfl
theorem dual_within (hc : NN n c) (hA : ∀ a ∈ A, Bel n c a) (hB : ∀ a ∈ B, Bel n c a) : (A.all fun g => inL B g) = ((dualL n B c).all fun g => inL (dualL n A c) g) := by
  rw [Bool.eq_iff_iff, within_box hA hB, within_box (dual_bel hc hB) (dual_bel hc hA)]
  constructor
  · intro h b hb hx
    rw [in_dual hc hB hb] at hx
    rw [in_dual hc hA hb]
    have := h _ (bel_cut hc hb).1
    cases e : inL A (cutL c b) with
    | false => rfl
    | true => rw [this e] at hx; exact hx
  · intro h b hb hx
    obtain ⟨b1, e1⟩ := bel_cut hc hb
    have := h _ b1
    rw [in_dual hc hB b1, in_dual hc hA b1, e1, hx] at this
    cases e : inL B b with
    | true => rfl
    | false => rw [e] at this; exact absurd (this rfl) (by decide)
end
end UC
end

section
set_option linter.all false
set_option maxRecDepth 100000
set_option maxHeartbeats 1000000
open PySem L2 DL RD UC
local macro_rules | `(tactic| walk_at "E") => `(tactic| (try simp only [qAsg, qRet, qDrop, qIfS, qTest, qAndT, qOrT, qNotT, qAndV, qOrV, qNotV, qIf, qOp, qUn, qChain, onB, qv, qc, qgN, qgT, qgCons, qgNil, qCons, qNil, qTup, qLst, qPar, qPar3, qAug, qCB, qCall, qLen, qTupleC, qListC, qMax2, qMin2, qIntC, qSum, qAny, qAll, qIsi, tyName, qAdd, qSub, qMul, qFdiv, qMod, qPow, qI2, qCmpI, qEq, qNe, qLt, qLe, qGt, qGe, qNeg, qIx, qDGet, qDIn, qDPut, qSl, qPart, qNoPart, qNext, qFor, qiSeq, qiRng1, qiRng2, qiZip, qiEnum, qLc, seqSrc, lsrc, titems, litems, sitems, fz, newL, List.getElem?_cons_zero, List.getElem?_cons_succ, List.set_cons_zero, List.set_cons_succ, if_true, if_false, Bool.false_eq_true, ite_true, ite_false, up_same, reduceIte, decide_true, decide_false, true_and, and_true]))
local macro_rules | `(tactic| walk_at "D") => `(tactic| (try simp only [qAsg, qRet, qDrop, qIfS, qTest, qAndT, qOrT, qNotT, qAndV, qOrV, qNotV, qIf, qOp, qUn, qChain, onB, qv, qc, qgN, qgT, qgCons, qgNil, qCons, qNil, qTup, qLst, qPar, qPar3, qAug, qCB, qCall, qLen, qTupleC, qListC, qMax2, qMin2, qIntC, qSum, qAny, qAll, qIsi, tyName, qAdd, qSub, qMul, qFdiv, qMod, qPow, qI2, qCmpI, qEq, qNe, qLt, qLe, qGt, qGe, qNeg, qIx, qDGet, qDIn, qDPut, qSl, qPart, qNoPart, qNext, qFor, qiSeq, qiRng1, qiRng2, qiZip, qiEnum, qLc, seqSrc, lsrc, titems, litems, sitems, fz, newL, List.getElem?_cons_zero, List.getElem?_cons_succ, List.set_cons_zero, List.set_cons_succ, if_true, if_false, Bool.false_eq_true, ite_true, ite_false, up_same, reduceIte, decide_true, decide_false, true_and, and_true, eqv_int, eqv_bool, eqv_TI, eqv_LI, eqv_TT, eqv_LT, eqv_nilL, eqv_nilT, shaped_TI, shaped_LI, shaped_TT, shaped_LT, shaped_int, shaped_bool, shaped_nilL, shaped_nilT, dints_map2, dbools_map2, datas_map, mkT_map, mkT_0, mkT_1, mkT_2, mkT_3, List.length_map, List.length_cons, List.length_nil, List.length_append, List.map_cons, List.map_nil, wipeD, Bool.not_true, Bool.not_false, eq_self, not_true_eq_false, not_false_eq_true, kitB_tt, kitB_ll, kitB_dd, kitB_bb, kitB_ib, kitB_ii, kitB_ss, kitB_tl, kitB_lt, Function.comp, datas, Option.map_some, List.cons_append, List.nil_append, CPow, le_size4, Int.toNat_natCast, rngD0, I_eq, Bo_eq, BS.qSortB, in_IT, in_IL, in_TT, in_TL, qNotN, qIsN, qSortD, qListRg, qDispT, keyX_TI, qLc2, qMax1, qMin1, qAppend, qExtend, tints_TI, dv_TI, Option.bind_some, qRetN, atI_0, atI_1, atI_2, mk_appT, mk_snocI, idl, rep_I, Option.map_none, eqv_idl, shaped_idl, Bool.and_self, Bool.true_and, Bool.and_true]))
local macro_rules | `(tactic| walk_at "F") => `(tactic| (try simp only [qAsg, qRet, qDrop, qIfS, qTest, qAndT, qOrT, qNotT, qAndV, qOrV, qNotV, qIf, qOp, qUn, qChain, onB, qv, qc, qgN, qgT, qgCons, qgNil, qCons, qNil, qTup, qLst, qPar, qPar3, qAug, qCB, qCall, qLen, qTupleC, qListC, qMax2, qMin2, qIntC, qSum, qAny, qAll, qIsi, tyName, qAdd, qSub, qMul, qFdiv, qMod, qPow, qI2, qCmpI, qEq, qNe, qLt, qLe, qGt, qGe, qNeg, qIx, qDGet, qDIn, qDPut, qSl, qPart, qNoPart, qNext, qFor, qiRng1, qiRng2, qiZip, qiEnum, qLc, fz, newL, List.getElem?_cons_zero, List.getElem?_cons_succ, List.set_cons_zero, List.set_cons_succ, if_true, if_false, Bool.false_eq_true, ite_true, ite_false, up_same, reduceIte, decide_true, decide_false, true_and, and_true, eqv_int, eqv_bool, eqv_TI, eqv_LI, eqv_TT, eqv_LT, eqv_nilL, eqv_nilT, shaped_TI, shaped_LI, shaped_TT, shaped_LT, shaped_int, shaped_bool, shaped_nilL, shaped_nilT, dints_map2, dbools_map2, datas_map, mkT_map, mkT_0, mkT_1, mkT_2, mkT_3, List.length_map, List.length_cons, List.length_nil, List.length_append, List.map_cons, List.map_nil, wipeD, Bool.not_true, Bool.not_false, eq_self, not_true_eq_false, not_false_eq_true, kitB_tt, kitB_ll, kitB_dd, kitB_bb, kitB_ib, kitB_ii, kitB_ss, kitB_tl, kitB_lt, Function.comp, datas, Option.map_some, List.cons_append, List.nil_append, CPow, le_size4, Int.toNat_natCast, rngD0, I_eq, Bo_eq, BS.qSortB, in_IT, in_IL, in_TT, in_TL, qNotN, qIsN, qSortD, qListRg, qDispT, keyX_TI, qLc2, qMax1, qMin1, qAppend, qExtend, tints_TI, dv_TI, Option.bind_some, qRetN, atI_0, atI_1, atI_2, mk_appT, mk_snocI, idl, rep_I, Option.map_none, eqv_idl, shaped_idl, Bool.and_self, Bool.true_and, Bool.and_true]))
namespace UC
open PySem L2 DL RD
/-! check_ideal of ideals -/
theorem lexLt_eq : ∀ a b : List Int, HT.lexLt a b = lexL a b
  | [], [] => rfl
  | [], _ :: _ => rfl
  | _ :: _, [] => rfl
  | x :: a, y :: b => by
    rw [HT.lexLt_cons, lexL, lexLt_eq a b]
    by_cases h : x = y
    · subst h; simp
    · simp [h]
theorem enumD_of {α : Type} (f : α → PyData) : ∀ (a : List α), enumD ((a.map f).map DV.d) = a.zipIdx.map fun p => DV.d (.tuple [.int p.2, f p.1]) := by
  intro a
  unfold enumD
  rw [List.map_map, List.mapIdx_eq_zipIdx_map, List.zipIdx_map, List.map_map]
  rfl
theorem cutD_take {α : Type} (xs : List α) (k : Nat) : cutD xs none (some (k : Int)) = xs.take k := by
  unfold cutD
  rw [HT.sIx_nat, HT.sIx_none, Nat.sub_zero, List.drop_zero]
  by_cases h : k ≤ xs.length
  · rw [Nat.min_eq_left h]
  · rw [Nat.min_eq_right (by omega), List.take_length, List.take_of_length_le (by omega)]
def sp_is_integer : SpD := fun xs st Q => ∃ i : Int, xs = [I i] ∧ Q (Bo true) st
theorem len_is_integer : ∀ xs st Q, sp_is_integer xs st Q → xs.length = 1 := by rintro xs st Q ⟨i, rfl, _⟩; rfl
theorem sem_is_integer : ∀ xs st Q, sp_is_integer xs st Q → rd_is_integer { nx := fun _ st' => Fg Q (.d .none) st', rt := Fg Q } (startD 1 xs) st := by
  rintro xs st Q ⟨i, rfl, K⟩
  have e0 : startD 1 [I i] = [some (I i)] := rfl
  rw [e0]
  unfold rd_is_integer
  walk_at "D"
  exact fg_ret K
def sp_is_monomial : SpD := fun xs st Q => ∃ (a : List Int) (n : Nat), xs = [.d (TI a), I n] ∧ Mon n 60 a ∧ Q (Bo true) st
theorem len_is_monomial : ∀ xs st Q, sp_is_monomial xs st Q → xs.length = 2 := by rintro xs st Q ⟨i, n, rfl, _⟩; rfl
theorem sem_is_monomial : ∀ xs st Q, sp_is_monomial xs st Q → rd_is_monomial sp_is_integer { nx := fun _ st' => Fg Q (.d .none) st', rt := Fg Q } (startD 3 xs) st := by
  rintro xs st Q ⟨a, n, rfl, ha, K⟩
  have e0 : startD 3 [.d (TI a), I n] = [some (.d (TI a)), some (I n), none] := rfl
  rw [e0]
  unfold rd_is_monomial
  have la := ha.1
  refine seq fun N hN => ?_
  walk_at "D"
  simp only [la, decide_true, Bool.not_true]
  walk_at "D"
  refine hN _ _ ?_; clear hN N
  refine seq fun N hN => ?_
  walk_at "D"
  rw [List.map_map]
  refine for_byT _ (fun _ ε s => s = st ∧ ∃ y, ε = [some (.d (TI a)), some (I n), y]) ⟨rfl, _, rfl⟩ (fun _ _ _ _ => trivial) ?_ ?_
  · rintro i e ε s he ⟨rfl, y, rfl⟩ L hL
    have := ha.2 e (List.mem_of_getElem? he)
    walk_at "D"
    refine ⟨e, rfl, ?_⟩
    walk_at "D"
    simp only [this.1, this.2, decide_true, Bool.not_true]
    walk_at "D"
    exact hL _ _ ⟨rfl, _, rfl⟩
  rintro ε s ⟨rfl, y, rfl⟩
  refine hN _ _ ?_; clear hN N
  walk_at "D"
  exact fg_ret K
def sp_has_form : SpD := fun xs st Q => ∃ (A : List (List Int)) (n : Nat), xs = [.d (idl n A)] ∧ 1 ≤ n ∧ n ≤ 12 ∧ Q (Bo true) st
theorem len_has_form : ∀ xs st Q, sp_has_form xs st Q → xs.length = 1 := by rintro xs st Q ⟨A, n, rfl, _⟩; rfl
theorem sem_has_form : ∀ xs st Q, sp_has_form xs st Q → rd_has_form sp_is_integer { nx := fun _ st' => Fg Q (.d .none) st', rt := Fg Q } (startD 1 xs) st := by
  rintro xs st Q ⟨A, n, rfl, h1, h2, K⟩
  have e0 : startD 1 [.d (idl n A)] = [some (.d (idl n A))] := rfl
  rw [e0]
  unfold rd_has_form
  refine seq fun N hN => ?_
  walk_at "D"
  have e2 : (((0 + 1 + 1 : Nat) : Int) = 2) = True := by simp
  simp only [e2, decide_true, Bool.not_true]
  walk_at "D"
  refine hN _ _ ?_; clear hN N
  walk_at "D"
  have g1 : (1 : Int) ≤ n := by omega
  have g2 : (n : Int) ≤ 12 := by omega
  refine ⟨n, rfl, ?_⟩
  walk_at "D"
  simp only [g1, g2, decide_true]
  walk_at "D"
  exact fg_ret K
/-- the ideals of the document -/
def Ideal (n : Nat) (A : List (List Int)) : Prop := 1 ≤ n ∧ n ≤ 12 ∧ Idl n 60 60 A
def sp_breach : SpD := fun xs st Q => ∃ (A : List (List Int)) (n : Nat), xs = [.d (idl n A)] ∧ Ideal n A ∧ Q (.d .none) st
theorem len_breach : ∀ xs st Q, sp_breach xs st Q → xs.length = 1 := by rintro xs st Q ⟨A, n, rfl, _⟩; rfl
theorem sem_breach : ∀ xs st Q, sp_breach xs st Q → rd_breach sp_has_form sp_is_monomial sp_divides { nx := fun _ st' => Fg Q (.d .none) st', rt := Fg Q } (startD 6 xs) st := by
  rintro xs st Q ⟨A, n, rfl, ⟨h1, h2, hA⟩, K⟩
  have e0 : startD 6 [.d (idl n A)] = [some (.d (idl n A)), none, none, none, none, none] := rfl
  rw [e0]
  unfold rd_breach
  have lA := hA.len
  have cA := hA.2.1
  have M := mins_minL lA
  rw [hA.1] at M
  refine seq fun N hN => ?_
  walk_at "D"
  refine ⟨A, n, rfl, h1, h2, ?_⟩
  walk_at "D"
  refine hN _ _ ?_; clear hN N
  refine seq fun N hN => ?_
  walk_at "D"
  refine hN _ _ ?_; clear hN N
  refine seq fun N hN => ?_
  walk_at "D"
  rw [enumD_of]
  refine for_byT _ (fun _ ε s => s = st ∧ ∃ y3 y4, ε = [some (.d (idl n A)), some (I n), some (.d (TT A)), y3, y4, none]) ⟨rfl, _, _, rfl⟩ (fun _ _ _ _ => trivial) ?_ ?_
  · rintro i z ε s hz ⟨rfl, y3, y4, rfl⟩ L hL
    have hzA : z.1 ∈ A := by
      have := List.mem_of_getElem? hz
      exact (List.mem_zipIdx' (x := z.1) (i := z.2) this).2 ▸ List.getElem_mem _
    walk_at "D"
    refine ⟨z.1, n, rfl, hA.2.2 _ hzA, ?_⟩
    walk_at "D"
    exact hL _ _ ⟨rfl, _, _, rfl⟩
  rintro ε s ⟨rfl, y3, y4, rfl⟩
  refine hN _ _ ?_; clear hN N
  refine seq fun N hN => ?_
  walk_at "D"
  refine ⟨⟨by decide, by decide, by omega, by omega⟩, ?_⟩
  unfold rngD
  refine for_byT _ (fun _ ε s' => s' = s ∧ ∃ y3 y4, ε = [some (.d (idl n A)), some (I n), some (.d (TT A)), y3, y4, none]) ⟨rfl, _, _, rfl⟩ (fun _ _ _ _ => trivial) ?_ ?_
  · rintro i j ε s hj ⟨rfl, y3, y4, rfl⟩ L hL
    obtain ⟨rfl, hi⟩ := range_some hj
    have k1 : j < A.length := by omega
    have k2 : j + 1 < A.length := by omega
    have e1 : (1 + (j : Int)) = ((j + 1 : Nat) : Int) := by omega
    have e2 : (((j + 1 : Nat) : Int) - 1) = (j : Int) := by omega
    rw [e1]
    walk_at "D"
    simp only [e2, atI_map2 k1, atI_map2 k2]
    walk_at "D"
    rw [lexLt_eq, List.pairwise_iff_getElem.mp M.ris j (j + 1) k1 k2 (by omega)]
    walk_at "D"
    exact hL _ _ ⟨rfl, _, _, rfl⟩
  rintro ε s ⟨rfl, z3, z4, rfl⟩
  refine hN _ _ ?_; clear hN N
  refine seq fun N hN => ?_
  walk_at "D"
  rw [enumD_of]
  refine for_byT _ (fun _ ε s' => s' = s ∧ ∃ y3 y4 y5, ε = [some (.d (idl n A)), some (I n), some (.d (TT A)), y3, y4, y5]) ⟨rfl, _, _, _, rfl⟩ (fun _ _ _ _ => trivial) ?_ ?_
  · rintro i z ε s hz ⟨rfl, y3, y4, y5, rfl⟩ L hL
    obtain ⟨hi, hzi⟩ := List.getElem?_eq_some_iff.mp hz
    rw [List.length_zipIdx] at hi
    rw [List.getElem_zipIdx] at hzi
    have hz2 : z = (A[i], i) := by rw [← hzi]; simp
    subst hz2
    walk_at "D"
    simp only [cutD_map]
    walk_at "D"
    rw [cutD_take]
    rw [List.map_map]
    refine for_byT _ (fun _ ε s' => s' = s ∧ ∃ y5, ε = [some (.d (idl n A)), some (I n), some (.d (TT A)), some (I i), some (.d (TI A[i])), y5]) ⟨rfl, _, rfl⟩ (fun _ _ _ _ => trivial) ?_ ?_
    · rintro j o ε s' ho ⟨rfl, y5, rfl⟩ L2 hL2
      walk_at "D"
      refine ⟨o, A[i], rfl, ?_⟩
      have hoA : o ∈ A.take i := List.mem_of_getElem? ho
      have hno : divB o A[i] = false := by
        rw [Bool.eq_false_iff]
        intro h
        have e := M.anti o (List.mem_of_mem_take hoA) A[i] (List.getElem_mem hi) h
        obtain ⟨j, hj, e2⟩ := List.mem_take_iff_getElem.mp hoA
        have := List.pairwise_iff_getElem.mp M.ris j i (by omega) hi (by omega)
        rw [e2, e, lexL_irr] at this
        cases this
      rw [hno]
      walk_at "D"
      exact hL2 _ _ ⟨rfl, _, rfl⟩
    · rintro ε s' ⟨rfl, y5, rfl⟩
      exact hL _ _ ⟨rfl, _, _, _, rfl⟩
  rintro ε s ⟨rfl, w3, w4, w5, rfl⟩
  refine hN _ _ ?_; clear hN N
  refine seq fun N hN => ?_
  walk_at "D"
  have g1 : ¬ (60 : Int) < A.length := by omega
  simp only [g1, decide_false]
  walk_at "D"
  refine hN _ _ ?_; clear hN N
  walk_at "D"
  exact fg_ret K
def sp_check_ideal : SpD := fun xs st Q => ∃ (A : List (List Int)) (n : Nat), xs = [.d (idl n A)] ∧ Ideal n A ∧ Q (.d (idl n A)) st
theorem len_check_ideal : ∀ xs st Q, sp_check_ideal xs st Q → xs.length = 1 := by rintro xs st Q ⟨A, n, rfl, _⟩; rfl
theorem sem_check_ideal : ∀ xs st Q, sp_check_ideal xs st Q → rd_check_ideal sp_breach { nx := fun _ st' => Fg Q (.d .none) st', rt := Fg Q } (startD 2 xs) st := by
  rintro xs st Q ⟨A, n, rfl, hA, K⟩
  have e0 : startD 2 [.d (idl n A)] = [some (.d (idl n A)), none] := rfl
  rw [e0]
  unfold rd_check_ideal
  refine seq fun N hN => ?_
  walk_at "D"
  refine ⟨A, n, rfl, hA, hN _ _ ?_⟩; clear hN N
  refine seq fun N hN => ?_
  walk_at "D"
  exact hN _ _ (fg_ret K)
end UC
end

section
set_option linter.all false
set_option maxRecDepth 100000
set_option maxHeartbeats 1000000
open PySem L2 DL RD UC
local macro_rules | `(tactic| walk_at "E") => `(tactic| (try simp only [qAsg, qRet, qDrop, qIfS, qTest, qAndT, qOrT, qNotT, qAndV, qOrV, qNotV, qIf, qOp, qUn, qChain, onB, qv, qc, qgN, qgT, qgCons, qgNil, qCons, qNil, qTup, qLst, qPar, qPar3, qAug, qCB, qCall, qLen, qTupleC, qListC, qMax2, qMin2, qIntC, qSum, qAny, qAll, qIsi, tyName, qAdd, qSub, qMul, qFdiv, qMod, qPow, qI2, qCmpI, qEq, qNe, qLt, qLe, qGt, qGe, qNeg, qIx, qDGet, qDIn, qDPut, qSl, qPart, qNoPart, qNext, qFor, qiSeq, qiRng1, qiRng2, qiZip, qiEnum, qLc, seqSrc, lsrc, titems, litems, sitems, fz, newL, List.getElem?_cons_zero, List.getElem?_cons_succ, List.set_cons_zero, List.set_cons_succ, if_true, if_false, Bool.false_eq_true, ite_true, ite_false, up_same, reduceIte, decide_true, decide_false, true_and, and_true]))
local macro_rules | `(tactic| walk_at "D") => `(tactic| (try simp only [qAsg, qRet, qDrop, qIfS, qTest, qAndT, qOrT, qNotT, qAndV, qOrV, qNotV, qIf, qOp, qUn, qChain, onB, qv, qc, qgN, qgT, qgCons, qgNil, qCons, qNil, qTup, qLst, qPar, qPar3, qAug, qCB, qCall, qLen, qTupleC, qListC, qMax2, qMin2, qIntC, qSum, qAny, qAll, qIsi, tyName, qAdd, qSub, qMul, qFdiv, qMod, qPow, qI2, qCmpI, qEq, qNe, qLt, qLe, qGt, qGe, qNeg, qIx, qDGet, qDIn, qDPut, qSl, qPart, qNoPart, qNext, qFor, qiSeq, qiRng1, qiRng2, qiZip, qiEnum, qLc, seqSrc, lsrc, titems, litems, sitems, fz, newL, List.getElem?_cons_zero, List.getElem?_cons_succ, List.set_cons_zero, List.set_cons_succ, if_true, if_false, Bool.false_eq_true, ite_true, ite_false, up_same, reduceIte, decide_true, decide_false, true_and, and_true, eqv_int, eqv_bool, eqv_TI, eqv_LI, eqv_TT, eqv_LT, eqv_nilL, eqv_nilT, shaped_TI, shaped_LI, shaped_TT, shaped_LT, shaped_int, shaped_bool, shaped_nilL, shaped_nilT, dints_map2, dbools_map2, datas_map, mkT_map, mkT_0, mkT_1, mkT_2, mkT_3, List.length_map, List.length_cons, List.length_nil, List.length_append, List.map_cons, List.map_nil, wipeD, Bool.not_true, Bool.not_false, eq_self, not_true_eq_false, not_false_eq_true, kitB_tt, kitB_ll, kitB_dd, kitB_bb, kitB_ib, kitB_ii, kitB_ss, kitB_tl, kitB_lt, Function.comp, datas, Option.map_some, List.cons_append, List.nil_append, CPow, le_size4, Int.toNat_natCast, rngD0, I_eq, Bo_eq, BS.qSortB, in_IT, in_IL, in_TT, in_TL, qNotN, qIsN, qSortD, qListRg, qDispT, keyX_TI, qLc2, qMax1, qMin1, qAppend, qExtend, tints_TI, dv_TI, Option.bind_some, qRetN, atI_0, atI_1, atI_2, mk_appT, mk_snocI, idl, rep_I, Option.map_none, eqv_idl, shaped_idl, Bool.and_self, Bool.true_and, Bool.and_true]))
local macro_rules | `(tactic| walk_at "F") => `(tactic| (try simp only [qAsg, qRet, qDrop, qIfS, qTest, qAndT, qOrT, qNotT, qAndV, qOrV, qNotV, qIf, qOp, qUn, qChain, onB, qv, qc, qgN, qgT, qgCons, qgNil, qCons, qNil, qTup, qLst, qPar, qPar3, qAug, qCB, qCall, qLen, qTupleC, qListC, qMax2, qMin2, qIntC, qSum, qAny, qAll, qIsi, tyName, qAdd, qSub, qMul, qFdiv, qMod, qPow, qI2, qCmpI, qEq, qNe, qLt, qLe, qGt, qGe, qNeg, qIx, qDGet, qDIn, qDPut, qSl, qPart, qNoPart, qNext, qFor, qiRng1, qiRng2, qiZip, qiEnum, qLc, fz, newL, List.getElem?_cons_zero, List.getElem?_cons_succ, List.set_cons_zero, List.set_cons_succ, if_true, if_false, Bool.false_eq_true, ite_true, ite_false, up_same, reduceIte, decide_true, decide_false, true_and, and_true, eqv_int, eqv_bool, eqv_TI, eqv_LI, eqv_TT, eqv_LT, eqv_nilL, eqv_nilT, shaped_TI, shaped_LI, shaped_TT, shaped_LT, shaped_int, shaped_bool, shaped_nilL, shaped_nilT, dints_map2, dbools_map2, datas_map, mkT_map, mkT_0, mkT_1, mkT_2, mkT_3, List.length_map, List.length_cons, List.length_nil, List.length_append, List.map_cons, List.map_nil, wipeD, Bool.not_true, Bool.not_false, eq_self, not_true_eq_false, not_false_eq_true, kitB_tt, kitB_ll, kitB_dd, kitB_bb, kitB_ib, kitB_ii, kitB_ss, kitB_tl, kitB_lt, Function.comp, datas, Option.map_some, List.cons_append, List.nil_append, CPow, le_size4, Int.toNat_natCast, rngD0, I_eq, Bo_eq, BS.qSortB, in_IT, in_IL, in_TT, in_TL, qNotN, qIsN, qSortD, qListRg, qDispT, keyX_TI, qLc2, qMax1, qMin1, qAppend, qExtend, tints_TI, dv_TI, Option.bind_some, qRetN, atI_0, atI_1, atI_2, mk_appT, mk_snocI, idl, rep_I, Option.map_none, eqv_idl, shaped_idl, Bool.and_self, Bool.true_and, Bool.and_true]))
namespace UC
open PySem L2 DL RD
/-! duals: the program's and the law's defs -/
abbrev sp_turned : SpD := spZ turnL
theorem len_turned : ∀ xs st Q, sp_turned xs st Q → xs.length = 2 := lenZ
theorem sem_turned : ∀ xs st Q, sp_turned xs st Q → rd_turned { nx := fun _ st' => Fg Q (.d .none) st', rt := Fg Q } (startD 4 xs) st :=
  semZ_of (fe := fun e t => if 0 < e then t + 1 - e else 0) rfl fun a b x y st Q h => by
    walk_at "D"
    by_cases h0 : 0 < x
    · simp only [h0, decide_true, if_true] at h ⊢
      exact h
    · simp only [h0, decide_false, if_false] at h ⊢
      walk_at "D"
      exact h
def sp_dual_of : SpD := fun xs st Q => ∃ (G : List (List Int)) (c : List Int) (n w : Nat), xs = [.d (idl n G), .d (TI c)] ∧ OkC n w G ∧ n ≤ 8 ∧ G.length ≤ 10 ∧ Mon n 60 c ∧ (∀ g ∈ G, Bel n c g) ∧ (compF n G).length ≤ 60 ∧ Q (.d (idl n (dualL n G c))) st
theorem len_dual_of : ∀ xs st Q, sp_dual_of xs st Q → xs.length = 2 := by rintro xs st Q ⟨G, c, n, w, rfl, _⟩; rfl
theorem sem_dual_of : ∀ xs st Q, sp_dual_of xs st Q → rd_dual_of sp_want_small sp_divides sp_components_of sp_turned sp_made { nx := fun _ st' => Fg Q (.d .none) st', rt := Fg Q } (startD 7 xs) st := by
  rintro xs st Q ⟨G, c, n, w, rfl, ok, h8, h10, hc, hG, h60, K⟩
  have e0 : startD 7 [.d (idl n G), .d (TI c)] = [some (.d (idl n G)), some (.d (TI c)), none, none, none, none, none] := rfl
  rw [e0]
  unfold rd_dual_of
  have nc := hc.nn
  refine seq fun N hN => ?_
  walk_at "D"
  refine ⟨G, n, rfl, h8, h10, hN _ _ ?_⟩; clear hN N
  refine seq fun N hN => ?_
  walk_at "D"
  refine hN _ _ ?_; clear hN N
  refine seq fun N hN => ?_
  walk_at "D"
  rw [enumD_of]
  refine for_byT _ (fun _ ε s => s = st ∧ ∃ y4 y5, ε = [some (.d (idl n G)), some (.d (TI c)), some (I n), some (.d (TT G)), y4, y5, none]) ⟨rfl, _, _, rfl⟩ (fun _ _ _ _ => trivial) ?_ ?_
  · rintro i z ε s hz ⟨rfl, y3, y4, rfl⟩ L hL
    have hzA : z.1 ∈ G := by
      have := List.mem_of_getElem? hz
      exact (List.mem_zipIdx' (x := z.1) (i := z.2) this).2 ▸ List.getElem_mem _
    walk_at "D"
    refine ⟨z.1, c, rfl, ?_⟩
    have : divB z.1 c = true := (divB_iff (hG _ hzA).1 hc.1).mpr fun j hj => ((hG _ hzA).2 j hj).2
    rw [this]
    walk_at "D"
    exact hL _ _ ⟨rfl, _, _, rfl⟩
  rintro ε s ⟨rfl, y3, y4, rfl⟩
  refine hN _ _ ?_; clear hN N
  have B := bel_compF nc hG
  walk_at "D"
  refine ⟨G, n, w, rfl, ok, ?_⟩
  walk_at "D"
  refine ⟨by rw [sizeL]; omega, ?_⟩
  rw [List.map_map]
  refine comp_mapT _ (fun p => .d (TI (turnL p c))) trivial _ _ ?_ ?_
  · intro p hp Q1 h
    walk_at "D"
    exact ⟨p, c, rfl, by rw [(B p hp).1]; have := ok.2.1; omega, h⟩
  · have e1 : [] ++ (compF n G).map (fun p => DV.d (TI (turnL p c))) = (((compF n G).map fun p => turnL p c).map TI).map .d := by
      rw [List.nil_append, List.map_map, List.map_map]
      rfl
    rw [e1]
    walk_at "D"
    refine ⟨_, (compF n G).map fun p => turnL p c, n, rfl, rfl, ⟨ok.1, ok.2.1, by rw [List.length_map]; omega, fun t ht => ?_⟩, by show (dualL n G c).length ≤ 60; rw [dual_len nc hG]; exact h60, fg_ret K⟩
    obtain ⟨p, hp, rfl⟩ := List.mem_map.mp ht
    have b := bel_turn (B p hp) nc
    refine ⟨b.1, fun x hx => ?_⟩
    obtain ⟨j, hj, rfl⟩ := List.mem_iff_getElem.mp hx
    rw [gd_eq hj]
    have := b.2 j (by rw [← b.1]; exact hj)
    have := hc.2 _ (gd_mem (j := j) (by rw [hc.1, ← b.1]; exact hj))
    omega
abbrev sp_law_cut : SpD := sp2 cutL
theorem len_law_cut : ∀ xs st Q, sp_law_cut xs st Q → xs.length = 2 := len_sp2
theorem sem_law_cut : ∀ xs st Q, sp_law_cut xs st Q → rd_law_cut { nx := fun _ st' => Fg Q (.d .none) st', rt := Fg Q } (startD 3 xs) st :=
  sem2_of (fe := fun x y => max (x - y) 0) rfl fun a b j st Q h1 h2 h => by
    walk_at "D"
    simp only [atI_gd h1, atI_gd h2]
    rw [show (if 0 > gd a j - gd b j then 0 else gd a j - gd b j) = max (gd a j - gd b j) 0 by rw [Int.max_def]; split <;> split <;> omega]
    exact h
def sp_law_above : SpD := fun xs st Q => ∃ (a : Addr) (tops : List Int) (B : Nat), xs = [.r a, .d (TI tops)] ∧ tops.length ≤ 100 ∧ B + 200 < 2 ^ 50 ∧ DrawSt st a B ∧
  ∀ (c : List Int) st', c.length = tops.length → (∀ j < tops.length, gd tops j ≤ gd c j ∧ gd c j ≤ gd tops j + 2) → DrawSt st' a (B + 200) → (∀ b, b ≠ a → st' b = st b) → Q (.d (TI c)) st'
theorem len_law_above : ∀ xs st Q, sp_law_above xs st Q → xs.length = 2 := by rintro xs st Q ⟨a, t, B, rfl, _⟩; rfl
theorem sem_law_above : ∀ xs st Q, sp_law_above xs st Q → rd_law_above sp_law_of { nx := fun _ st' => Fg Q (.d .none) st', rt := Fg Q } (startD 3 xs) st := by
  rintro xs st Q ⟨a, tops, B, rfl, hl, hB, D, K⟩
  have e0 : startD 3 [.r a, .d (TI tops)] = [some (.r a), some (.d (TI tops)), none] := rfl
  rw [e0]
  unfold rd_law_above
  walk_at "D"
  refine ⟨by rw [sizeL]; omega, ?_⟩
  rw [List.map_map]
  refine comp_wordI _ (fun i acc s => ∃ v : List Int, acc = (v.map .int).map .d ∧ v.length = i ∧ (∀ j < i, gd tops j ≤ gd v j ∧ gd v j ≤ gd tops j + 2) ∧ DrawSt s a (B + i) ∧ ∀ b, b ≠ a → s b = st b) (fun _ _ _ _ => trivial) _ st ⟨[], rfl, rfl, (by intro j hj; omega), D, fun _ _ => rfl⟩ ?_ ?_
  · rintro i p acc s hp ⟨v, rfl, h1, h2, D, fr⟩ Q1 h
    have hi : i < tops.length := (List.getElem?_eq_some_iff.mp hp).1
    have hpe : p = gd tops i := by rw [← gd_eq hi]; exact (List.getElem?_eq_some_iff.mp hp).2.symm
    walk_at "D"
    refine drawI [0, 0, 1, 2] D (by decide) (by decide) (by omega) fun d s1 hd D1 f1 => ?_
    walk_at "D"
    have hd2 : 0 ≤ d ∧ d ≤ 2 := by
      simp only [List.mem_cons, List.not_mem_nil, or_false] at hd
      omega
    refine h _ _ ⟨v ++ [p + d], by simp, by simp; omega, fun j hj => ?_, D1.mono (by omega), fun b hb => by rw [f1 b hb, fr b hb]⟩
    by_cases z : j < v.length
    · rw [gd_app_l z]
      exact h2 j (by omega)
    · have : j = v.length := by omega
      subst this
      rw [gd_app_one, h1, hpe]
      omega
  · rintro acc s ⟨v, rfl, h1, h2, D, fr⟩
    walk_at "D"
    exact fg_ret (K v s h1 h2 (D.mono (by omega)) fr)
end UC
end

section
set_option linter.all false
set_option maxRecDepth 100000
set_option maxHeartbeats 1000000
open PySem L2 DL RD UC
local macro_rules | `(tactic| walk_at "E") => `(tactic| (try simp only [qAsg, qRet, qDrop, qIfS, qTest, qAndT, qOrT, qNotT, qAndV, qOrV, qNotV, qIf, qOp, qUn, qChain, onB, qv, qc, qgN, qgT, qgCons, qgNil, qCons, qNil, qTup, qLst, qPar, qPar3, qAug, qCB, qCall, qLen, qTupleC, qListC, qMax2, qMin2, qIntC, qSum, qAny, qAll, qIsi, tyName, qAdd, qSub, qMul, qFdiv, qMod, qPow, qI2, qCmpI, qEq, qNe, qLt, qLe, qGt, qGe, qNeg, qIx, qDGet, qDIn, qDPut, qSl, qPart, qNoPart, qNext, qFor, qiSeq, qiRng1, qiRng2, qiZip, qiEnum, qLc, seqSrc, lsrc, titems, litems, sitems, fz, newL, List.getElem?_cons_zero, List.getElem?_cons_succ, List.set_cons_zero, List.set_cons_succ, if_true, if_false, Bool.false_eq_true, ite_true, ite_false, up_same, reduceIte, decide_true, decide_false, true_and, and_true]))
local macro_rules | `(tactic| walk_at "D") => `(tactic| (try simp only [qAsg, qRet, qDrop, qIfS, qTest, qAndT, qOrT, qNotT, qAndV, qOrV, qNotV, qIf, qOp, qUn, qChain, onB, qv, qc, qgN, qgT, qgCons, qgNil, qCons, qNil, qTup, qLst, qPar, qPar3, qAug, qCB, qCall, qLen, qTupleC, qListC, qMax2, qMin2, qIntC, qSum, qAny, qAll, qIsi, tyName, qAdd, qSub, qMul, qFdiv, qMod, qPow, qI2, qCmpI, qEq, qNe, qLt, qLe, qGt, qGe, qNeg, qIx, qDGet, qDIn, qDPut, qSl, qPart, qNoPart, qNext, qFor, qiSeq, qiRng1, qiRng2, qiZip, qiEnum, qLc, seqSrc, lsrc, titems, litems, sitems, fz, newL, List.getElem?_cons_zero, List.getElem?_cons_succ, List.set_cons_zero, List.set_cons_succ, if_true, if_false, Bool.false_eq_true, ite_true, ite_false, up_same, reduceIte, decide_true, decide_false, true_and, and_true, eqv_int, eqv_bool, eqv_TI, eqv_LI, eqv_TT, eqv_LT, eqv_nilL, eqv_nilT, shaped_TI, shaped_LI, shaped_TT, shaped_LT, shaped_int, shaped_bool, shaped_nilL, shaped_nilT, dints_map2, dbools_map2, datas_map, mkT_map, mkT_0, mkT_1, mkT_2, mkT_3, List.length_map, List.length_cons, List.length_nil, List.length_append, List.map_cons, List.map_nil, wipeD, Bool.not_true, Bool.not_false, eq_self, not_true_eq_false, not_false_eq_true, kitB_tt, kitB_ll, kitB_dd, kitB_bb, kitB_ib, kitB_ii, kitB_ss, kitB_tl, kitB_lt, Function.comp, datas, Option.map_some, List.cons_append, List.nil_append, CPow, le_size4, Int.toNat_natCast, rngD0, I_eq, Bo_eq, BS.qSortB, in_IT, in_IL, in_TT, in_TL, qNotN, qIsN, qSortD, qListRg, qDispT, keyX_TI, qLc2, qMax1, qMin1, qAppend, qExtend, tints_TI, dv_TI, Option.bind_some, qRetN, atI_0, atI_1, atI_2, mk_appT, mk_snocI, idl, rep_I, Option.map_none, eqv_idl, shaped_idl, Bool.and_self, Bool.true_and, Bool.and_true]))
local macro_rules | `(tactic| walk_at "F") => `(tactic| (try simp only [qAsg, qRet, qDrop, qIfS, qTest, qAndT, qOrT, qNotT, qAndV, qOrV, qNotV, qIf, qOp, qUn, qChain, onB, qv, qc, qgN, qgT, qgCons, qgNil, qCons, qNil, qTup, qLst, qPar, qPar3, qAug, qCB, qCall, qLen, qTupleC, qListC, qMax2, qMin2, qIntC, qSum, qAny, qAll, qIsi, tyName, qAdd, qSub, qMul, qFdiv, qMod, qPow, qI2, qCmpI, qEq, qNe, qLt, qLe, qGt, qGe, qNeg, qIx, qDGet, qDIn, qDPut, qSl, qPart, qNoPart, qNext, qFor, qiRng1, qiRng2, qiZip, qiEnum, qLc, fz, newL, List.getElem?_cons_zero, List.getElem?_cons_succ, List.set_cons_zero, List.set_cons_succ, if_true, if_false, Bool.false_eq_true, ite_true, ite_false, up_same, reduceIte, decide_true, decide_false, true_and, and_true, eqv_int, eqv_bool, eqv_TI, eqv_LI, eqv_TT, eqv_LT, eqv_nilL, eqv_nilT, shaped_TI, shaped_LI, shaped_TT, shaped_LT, shaped_int, shaped_bool, shaped_nilL, shaped_nilT, dints_map2, dbools_map2, datas_map, mkT_map, mkT_0, mkT_1, mkT_2, mkT_3, List.length_map, List.length_cons, List.length_nil, List.length_append, List.map_cons, List.map_nil, wipeD, Bool.not_true, Bool.not_false, eq_self, not_true_eq_false, not_false_eq_true, kitB_tt, kitB_ll, kitB_dd, kitB_bb, kitB_ib, kitB_ii, kitB_ss, kitB_tl, kitB_lt, Function.comp, datas, Option.map_some, List.cons_append, List.nil_append, CPow, le_size4, Int.toNat_natCast, rngD0, I_eq, Bo_eq, BS.qSortB, in_IT, in_IL, in_TT, in_TL, qNotN, qIsN, qSortD, qListRg, qDispT, keyX_TI, qLc2, qMax1, qMin1, qAppend, qExtend, tints_TI, dv_TI, Option.bind_some, qRetN, atI_0, atI_1, atI_2, mk_appT, mk_snocI, idl, rep_I, Option.map_none, eqv_idl, shaped_idl, Bool.and_self, Bool.true_and, Bool.and_true]))
namespace UC
open PySem L2 DL RD
def sp_permuted : SpD := fun xs st Q => ∃ (A : List (List Int)) (ls : List Nat) (n : Nat) (r : Nat → Nat), xs = [.d (idl n A), .d (TI (ls.map fun (k : Nat) => (k : Int)))] ∧ 1 ≤ n ∧ n ≤ 1000 ∧ PermOk n ls r ∧ Idl n 60 60 A ∧ Q (.d (idl n (minL (permS ls A)))) st
theorem len_permuted : ∀ xs st Q, sp_permuted xs st Q → xs.length = 2 := by rintro xs st Q ⟨A, ls, n, r, rfl, _⟩; rfl
theorem mon_perm {n : Nat} {w : Int} {ls : List Nat} {r : Nat → Nat} (P : PermOk n ls r) {a : List Int} (ha : Mon n w a) : Mon n w (permL ls a) := by
  refine ⟨len_perm P, fun x hx => ?_⟩
  obtain ⟨j, hj, rfl⟩ := List.mem_iff_getElem.mp hx
  have hj' : j < n := by rw [← len_perm P (a := a)]; exact hj
  rw [gd_eq hj, gd_perm P hj']
  exact ha.2 _ (gd_mem (by rw [ha.1]; exact P.lt j hj'))
theorem sem_permuted : ∀ xs st Q, sp_permuted xs st Q → rd_permuted sp_made { nx := fun _ st' => Fg Q (.d .none) st', rt := Fg Q } (startD 4 xs) st := by
  rintro xs st Q ⟨A, ls, n, r, rfl, h1, h2, P, hA, K⟩
  have e0 : startD 4 [.d (idl n A), .d (TI (ls.map fun (k : Nat) => (k : Int)))] = [some (.d (idl n A)), some (.d (TI (ls.map fun (k : Nat) => (k : Int)))), none, none] := rfl
  rw [e0]
  unfold rd_permuted
  have cA := hA.2.1
  have lA := hA.len
  have lls := P.len
  walk_at "D"
  refine ⟨size_of cA (by omega), ?_⟩
  rw [List.map_map]
  refine comp_mapT _ (fun a => .d (TI (permL ls a))) trivial _ _ ?_ ?_
  · intro a ha Q1 h
    walk_at "D"
    refine ⟨by rw [sizeL]; omega, ?_⟩
    rw [List.map_map, List.map_map]
    refine comp_mapT _ (fun k => I (gd a k)) trivial _ _ ?_ ?_
    · intro k hk Q2 h2
      have hkn : k < a.length := by
        obtain ⟨j, hj, rfl⟩ := List.mem_iff_getElem.mp hk
        have := P.lt j (by omega)
        rw [List.getD_eq_getElem?_getD, List.getElem?_eq_getElem hj] at this
        rw [lA a ha]
        exact this
      walk_at "D"
      simp only [atI_gd hkn]
      exact h2
    · rw [ints_dv0]
      walk_at "D"
      exact h
  · have e1 : [] ++ A.map (fun a => DV.d (TI (permL ls a))) = ((permS ls A).map TI).map .d := by
      unfold permS
      rw [List.nil_append, List.map_map, List.map_map]
      rfl
    rw [e1]
    walk_at "D"
    refine ⟨_, permS ls A, n, rfl, rfl, ⟨h1, h2, by rw [permS, List.length_map]; omega, fun t ht => ?_⟩, Nat.le_trans (min_len _) (by rw [permS, List.length_map]; exact cA), fg_ret K⟩
    obtain ⟨a, ha, rfl⟩ := List.mem_map.mp ht
    exact mon_perm P (hA.2.2 a ha)
def sp_law_two : SpD := fun xs st Q => ∃ (a : Addr) (B : Nat), xs = [.r a] ∧ B + 100000 < 2 ^ 50 ∧ DrawSt st a B ∧
  ∀ (n : Nat) (X Y : List (List Int)) st', 1 ≤ n → n ≤ 3 → Idl n 3 4 X → Idl n 3 4 Y → DrawSt st' a (B + 100000) → Q (.d (.tuple [.int n, idl n X, idl n Y])) st'
theorem len_law_two : ∀ xs st Q, sp_law_two xs st Q → xs.length = 1 := by rintro xs st Q ⟨a, B, rfl, _⟩; rfl
theorem idl_none (n : Nat) (w : Int) (c : Nat) : Idl n w c [] := ⟨rfl, by simp, fun t ht => nomatch ht⟩
theorem idl_one (n : Nat) {w : Int} (c : Nat) (hw : 0 ≤ w) (h : 1 ≤ c) : Idl n w c [List.replicate n 0] := ⟨min_one _, by simpa using h, fun t ht => by rw [List.mem_singleton.mp ht]; exact (mon_zero n).mono hw⟩
theorem sem_law_two : ∀ xs st Q, sp_law_two xs st Q → rd_law_two sp_law_draw sp_law_ideal { nx := fun _ st' => Fg Q (.d .none) st', rt := Fg Q } (startD 6 xs) st := by
  rintro xs st Q ⟨a, B, rfl, hB, D, K⟩
  have e0 : startD 6 [.r a] = [some (.r a), none, none, none, none, none] := rfl
  rw [e0]
  unfold rd_law_two
  refine seq fun N hN => ?_
  walk_at "D"
  refine draw D (by omega) (by omega) (by omega) fun v s1 l1 u1 D1 f1 => ?_
  walk_at "D"
  obtain ⟨n, hn⟩ : ∃ n : Nat, 1 + v = (n : Int) := ⟨(1 + v).toNat, by omega⟩
  rw [hn]
  refine ⟨by decide, fun q hq => hN _ _ ?_⟩; clear hN N
  have aq : a ≠ q := fun e => by
    obtain ⟨_, _, _, _, h, _⟩ := D1
    rw [e, hq] at h
    cases h
  refine seq fun N hN => ?_
  walk_at "D"
  refine ⟨by decide, by decide, ?_⟩
  refine for_byT (fun (i : Nat) => I (i : Int)) (l := [0, 1]) (fun i ε s => (∃ y3 y4 y5, ε = [some (.r a), some (I n), some (.r q), y3, y4, y5]) ∧ DrawSt s a (B + 1 + 30000 * i) ∧ ∃ Gs : List (List (List Int)), Gs.length = i ∧ (∀ G ∈ Gs, Idl n 3 4 G) ∧ s q = some (.lst (Gs.map fun G => .d (idl n G))))
    ⟨⟨_, _, _, rfl⟩, (by
      obtain ⟨x1, x2, x3, x4, h, r⟩ := D1
      exact ⟨x1, x2, x3, x4, by rw [up_ne aq]; exact h, r⟩), [], rfl, (fun G hG => nomatch hG), up_same⟩ (fun _ _ _ _ => trivial) ?_ ?_
  · rintro i x ε s hx ⟨⟨y3, y4, y5, rfl⟩, D2, Gs, hGl, hGs, hs⟩ L hL
    have hi : i < 2 := (List.getElem?_eq_some_iff.mp hx).1
    walk_at "D"
    refine seq fun N hN => ?_
    walk_at "D"
    refine draw D2 (by omega) (by omega) (by omega) fun v2 s2 l2 u2 D3 f3 => ?_
    walk_at "D"
    refine hN _ _ ?_; clear hN N
    refine seq fun N hN => ?_
    walk_at "D"
    refine ⟨a, n, 4, 3, _, rfl, by omega, by omega, by omega, by omega, by omega, by omega, D3, fun G s3 hG _ D4 f4 => ?_⟩
    refine hN _ _ ?_; clear hN N
    have hs3 : s3 q = some (.lst (Gs.map fun G => .d (idl n G))) := by rw [f4 q (Ne.symm aq), f3 q (Ne.symm aq)]; exact hs
    have fin : ∀ (H : List (List Int)) (y4 y5 : Option DV), Idl n 3 4 H → L [some (.r a), some (I n), some (.r q), some (I x), y4, y5] (up s3 q (.lst ((Gs.map fun G => .d (idl n G)) ++ [.d (idl n H)]))) := fun H y4 y5 hH =>
      hL _ _ ⟨⟨_, _, _, rfl⟩, (by
        obtain ⟨x1, x2, x3, x4, h, r1, r2, r3⟩ := D4
        exact ⟨x1, x2, x3, x4, by rw [up_ne aq]; exact h, r1, r2, by omega⟩), Gs ++ [H], by simp [hGl], (fun Z hZ => by
        rcases List.mem_append.mp hZ with z | z
        · exact hGs Z z
        · rw [List.mem_singleton.mp z]; exact hH), by rw [up_same, List.map_append]; rfl⟩
    walk_at "D"
    refine ⟨⟨_, hs3⟩, ?_⟩
    by_cases c1 : v2 = 0
    · simp only [c1, decide_true, if_true]
      walk_at "D"
      refine ⟨by decide, by decide, _, hs3, by simp only [List.length_map, hGl, sizeL]; omega, ?_⟩
      exact fin [] _ _ (idl_none ..)
    · simp only [c1, decide_false]
      walk_at "D"
      by_cases c2 : v2 = 1
      · simp only [c2, decide_true, if_true]
        walk_at "D"
        refine ⟨by decide, by simp, by omega, by omega, by decide, by decide, by decide, _, hs3, by simp only [List.length_map, hGl, sizeL]; omega, ?_⟩
        exact fin [List.replicate n 0] _ _ (idl_one _ _ (by decide) (by decide))
      · simp only [c2, decide_false]
        walk_at "D"
        refine ⟨_, hs3, by simp only [List.length_map, hGl, sizeL]; omega, ?_⟩
        exact fin G _ _ hG
  rintro ε s ⟨⟨y3, y4, y5, rfl⟩, D2, Gs, hGl, hGs, hs⟩
  refine hN _ _ ?_; clear hN N
  obtain ⟨X, Y, rfl⟩ : ∃ X Y, Gs = [X, Y] := by
    match Gs, hGl with
    | [X, Y], _ => exact ⟨X, Y, rfl⟩
  walk_at "D"
  simp only [hs]
  walk_at "D"
  refine ⟨by decide, fg_ret (K n X Y s (by omega) (by omega) (hGs X (by simp)) (hGs Y (by simp)) (D2.mono (by simp)))⟩
end UC
end

section
set_option linter.all false
set_option maxRecDepth 100000
set_option maxHeartbeats 1000000
open PySem L2 DL RD UC
local macro_rules | `(tactic| walk_at "E") => `(tactic| (try simp only [qAsg, qRet, qDrop, qIfS, qTest, qAndT, qOrT, qNotT, qAndV, qOrV, qNotV, qIf, qOp, qUn, qChain, onB, qv, qc, qgN, qgT, qgCons, qgNil, qCons, qNil, qTup, qLst, qPar, qPar3, qAug, qCB, qCall, qLen, qTupleC, qListC, qMax2, qMin2, qIntC, qSum, qAny, qAll, qIsi, tyName, qAdd, qSub, qMul, qFdiv, qMod, qPow, qI2, qCmpI, qEq, qNe, qLt, qLe, qGt, qGe, qNeg, qIx, qDGet, qDIn, qDPut, qSl, qPart, qNoPart, qNext, qFor, qiSeq, qiRng1, qiRng2, qiZip, qiEnum, qLc, seqSrc, lsrc, titems, litems, sitems, fz, newL, List.getElem?_cons_zero, List.getElem?_cons_succ, List.set_cons_zero, List.set_cons_succ, if_true, if_false, Bool.false_eq_true, ite_true, ite_false, up_same, reduceIte, decide_true, decide_false, true_and, and_true]))
local macro_rules | `(tactic| walk_at "D") => `(tactic| (try simp only [qAsg, qRet, qDrop, qIfS, qTest, qAndT, qOrT, qNotT, qAndV, qOrV, qNotV, qIf, qOp, qUn, qChain, onB, qv, qc, qgN, qgT, qgCons, qgNil, qCons, qNil, qTup, qLst, qPar, qPar3, qAug, qCB, qCall, qLen, qTupleC, qListC, qMax2, qMin2, qIntC, qSum, qAny, qAll, qIsi, tyName, qAdd, qSub, qMul, qFdiv, qMod, qPow, qI2, qCmpI, qEq, qNe, qLt, qLe, qGt, qGe, qNeg, qIx, qDGet, qDIn, qDPut, qSl, qPart, qNoPart, qNext, qFor, qiSeq, qiRng1, qiRng2, qiZip, qiEnum, qLc, seqSrc, lsrc, titems, litems, sitems, fz, newL, List.getElem?_cons_zero, List.getElem?_cons_succ, List.set_cons_zero, List.set_cons_succ, if_true, if_false, Bool.false_eq_true, ite_true, ite_false, up_same, reduceIte, decide_true, decide_false, true_and, and_true, eqv_int, eqv_bool, eqv_TI, eqv_LI, eqv_TT, eqv_LT, eqv_nilL, eqv_nilT, shaped_TI, shaped_LI, shaped_TT, shaped_LT, shaped_int, shaped_bool, shaped_nilL, shaped_nilT, dints_map2, dbools_map2, datas_map, mkT_map, mkT_0, mkT_1, mkT_2, mkT_3, List.length_map, List.length_cons, List.length_nil, List.length_append, List.map_cons, List.map_nil, wipeD, Bool.not_true, Bool.not_false, eq_self, not_true_eq_false, not_false_eq_true, kitB_tt, kitB_ll, kitB_dd, kitB_bb, kitB_ib, kitB_ii, kitB_ss, kitB_tl, kitB_lt, Function.comp, datas, Option.map_some, List.cons_append, List.nil_append, CPow, le_size4, Int.toNat_natCast, rngD0, I_eq, Bo_eq, BS.qSortB, in_IT, in_IL, in_TT, in_TL, qNotN, qIsN, qSortD, qListRg, qDispT, keyX_TI, qLc2, qMax1, qMin1, qAppend, qExtend, tints_TI, dv_TI, Option.bind_some, qRetN, atI_0, atI_1, atI_2, mk_appT, mk_snocI, idl, rep_I, Option.map_none, eqv_idl, shaped_idl, Bool.and_self, Bool.true_and, Bool.and_true]))
local macro_rules | `(tactic| walk_at "F") => `(tactic| (try simp only [qAsg, qRet, qDrop, qIfS, qTest, qAndT, qOrT, qNotT, qAndV, qOrV, qNotV, qIf, qOp, qUn, qChain, onB, qv, qc, qgN, qgT, qgCons, qgNil, qCons, qNil, qTup, qLst, qPar, qPar3, qAug, qCB, qCall, qLen, qTupleC, qListC, qMax2, qMin2, qIntC, qSum, qAny, qAll, qIsi, tyName, qAdd, qSub, qMul, qFdiv, qMod, qPow, qI2, qCmpI, qEq, qNe, qLt, qLe, qGt, qGe, qNeg, qIx, qDGet, qDIn, qDPut, qSl, qPart, qNoPart, qNext, qFor, qiRng1, qiRng2, qiZip, qiEnum, qLc, fz, newL, List.getElem?_cons_zero, List.getElem?_cons_succ, List.set_cons_zero, List.set_cons_succ, if_true, if_false, Bool.false_eq_true, ite_true, ite_false, up_same, reduceIte, decide_true, decide_false, true_and, and_true, eqv_int, eqv_bool, eqv_TI, eqv_LI, eqv_TT, eqv_LT, eqv_nilL, eqv_nilT, shaped_TI, shaped_LI, shaped_TT, shaped_LT, shaped_int, shaped_bool, shaped_nilL, shaped_nilT, dints_map2, dbools_map2, datas_map, mkT_map, mkT_0, mkT_1, mkT_2, mkT_3, List.length_map, List.length_cons, List.length_nil, List.length_append, List.map_cons, List.map_nil, wipeD, Bool.not_true, Bool.not_false, eq_self, not_true_eq_false, not_false_eq_true, kitB_tt, kitB_ll, kitB_dd, kitB_bb, kitB_ib, kitB_ii, kitB_ss, kitB_tl, kitB_lt, Function.comp, datas, Option.map_some, List.cons_append, List.nil_append, CPow, le_size4, Int.toNat_natCast, rngD0, I_eq, Bo_eq, BS.qSortB, in_IT, in_IL, in_TT, in_TL, qNotN, qIsN, qSortD, qListRg, qDispT, keyX_TI, qLc2, qMax1, qMin1, qAppend, qExtend, tints_TI, dv_TI, Option.bind_some, qRetN, atI_0, atI_1, atI_2, mk_appT, mk_snocI, idl, rep_I, Option.map_none, eqv_idl, shaped_idl, Bool.and_self, Bool.true_and, Bool.and_true]))
namespace UC
open PySem L2 DL RD
theorem mon_cut {n : Nat} {w : Int} {a f : List Int} (ha : Mon n w a) (hf : NN n f) : Mon n w (cutL a f) := by
  refine ⟨len_zw ha.1 hf.1, fun x hx => ?_⟩
  unfold cutL at hx
  rw [← range_zw ha.1 hf.1] at hx
  obtain ⟨j, hj, rfl⟩ := List.mem_map.mp hx
  rw [List.mem_range] at hj
  have h1 := ha.2 _ (gd_mem (j := j) (by rw [ha.1]; exact hj))
  have h2 := hf.at hj
  omega
abbrev cutS (A : List (List Int)) (f : List Int) : List (List Int) := A.map fun a => cutL a f
def sp_colon_by : SpD := fun xs st Q => ∃ (A : List (List Int)) (f : List Int) (n : Nat), xs = [.d (idl n A), .d (TI f)] ∧ 1 ≤ n ∧ n ≤ 1000 ∧ Idl n 60 60 A ∧ NN n f ∧ Q (.d (idl n (minL (cutS A f)))) st
theorem len_colon_by : ∀ xs st Q, sp_colon_by xs st Q → xs.length = 2 := by rintro xs st Q ⟨a, b, n, rfl, _⟩; rfl
theorem ok_cut {A : List (List Int)} {f : List Int} {n : Nat} (h1 : 1 ≤ n) (h2 : n ≤ 1000) (hA : Idl n 60 60 A) (hf : NN n f) : OkS n 60 (cutS A f) ∧ (minL (cutS A f)).length ≤ 60 := by
  have := hA.2.1
  refine ⟨⟨h1, h2, by rw [List.length_map]; omega, fun t ht => ?_⟩, Nat.le_trans (min_len _) (by rw [List.length_map]; exact this)⟩
  obtain ⟨a, ha, rfl⟩ := List.mem_map.mp ht
  exact mon_cut (hA.2.2 a ha) hf
theorem sem_colon_by : ∀ xs st Q, sp_colon_by xs st Q → rd_colon_by sp_cut sp_made { nx := fun _ st' => Fg Q (.d .none) st', rt := Fg Q } (startD 3 xs) st := by
  rintro xs st Q ⟨A, f, n, rfl, h1, h2, hA, hf, K⟩
  have e0 : startD 3 [.d (idl n A), .d (TI f)] = [some (.d (idl n A)), some (.d (TI f)), none] := rfl
  rw [e0]
  unfold rd_colon_by
  obtain ⟨o, c⟩ := ok_cut h1 h2 hA hf
  have lA := hA.len
  walk_at "D"
  refine ⟨size_of hA.2.1 (by omega), ?_⟩
  rw [List.map_map]
  refine comp_mapT _ (fun a => .d (TI (cutL a f))) trivial _ _ ?_ ?_
  · intro a ha Q1 h
    walk_at "D"
    exact ⟨a, f, rfl, by rw [lA a ha]; exact h2, h⟩
  · have e1 : [] ++ A.map (fun a => DV.d (TI (cutL a f))) = ((cutS A f).map TI).map .d := by
      rw [List.nil_append, List.map_map, List.map_map]
      rfl
    rw [e1]
    walk_at "D"
    exact ⟨_, cutS A f, n, rfl, rfl, o, c, fg_ret K⟩
theorem mk_appJ (a b : List Int) : mkT ((a.map PyData.int).map .d ++ (b.map PyData.int).map .d) = .d (TI (a ++ b)) := by
  rw [mk_app, ← List.map_append]
def radL (a : List Int) : List Int := a.map fun e => min e 1
abbrev radS (A : List (List Int)) : List (List Int) := A.map radL
theorem mon_rad {n : Nat} {w : Int} {a : List Int} (ha : Mon n w a) : Mon n 1 (radL a) := by
  refine ⟨by rw [radL, List.length_map]; exact ha.1, fun x hx => ?_⟩
  obtain ⟨e, he, rfl⟩ := List.mem_map.mp hx
  have := ha.2 e he
  omega
def sp_radical_of : SpD := fun xs st Q => ∃ (A : List (List Int)) (n : Nat), xs = [.d (idl n A)] ∧ 1 ≤ n ∧ n ≤ 1000 ∧ Idl n 60 60 A ∧ Q (.d (idl n (minL (radS A)))) st
theorem len_radical_of : ∀ xs st Q, sp_radical_of xs st Q → xs.length = 1 := by rintro xs st Q ⟨a, n, rfl, _⟩; rfl
theorem sem_radical_of : ∀ xs st Q, sp_radical_of xs st Q → rd_radical_of sp_made { nx := fun _ st' => Fg Q (.d .none) st', rt := Fg Q } (startD 3 xs) st := by
  rintro xs st Q ⟨A, n, rfl, h1, h2, hA, K⟩
  have e0 : startD 3 [.d (idl n A)] = [some (.d (idl n A)), none, none] := rfl
  rw [e0]
  unfold rd_radical_of
  have cA := hA.2.1
  have lA := hA.len
  walk_at "D"
  refine ⟨size_of cA (by omega), ?_⟩
  rw [List.map_map]
  refine comp_mapT _ (fun a => .d (TI (radL a))) trivial _ _ ?_ ?_
  · intro a ha Q1 h
    walk_at "D"
    refine ⟨by rw [lA a ha, sizeL]; omega, ?_⟩
    rw [List.map_map]
    refine comp_mapT _ (fun e => I (min e 1)) trivial _ _ ?_ ?_
    · intro e he Q2 h2
      walk_at "D"
      rw [show (if 1 < e then 1 else e) = min e 1 by rw [Int.min_def]; split <;> split <;> omega]
      exact h2
    · rw [ints_dv0]
      walk_at "D"
      exact h
  · have e1 : [] ++ A.map (fun a => DV.d (TI (radL a))) = ((radS A).map TI).map .d := by
      rw [List.nil_append, List.map_map, List.map_map]
      rfl
    rw [e1]
    walk_at "D"
    refine ⟨_, radS A, n, rfl, rfl, ⟨h1, h2, by rw [List.length_map]; omega, fun t ht => ?_⟩, Nat.le_trans (min_len _) (by rw [List.length_map]; exact cA), fg_ret K⟩
    obtain ⟨a, ha, rfl⟩ := List.mem_map.mp ht
    exact (mon_rad (hA.2.2 a ha)).mono (by decide)
def satL (v : Nat) (a : List Int) : List Int := (cutD a none (some (v : Int)) ++ [0]) ++ cutD a (some (((v + 1 : Nat)) : Int)) none
theorem satL_eq (v : Nat) (a : List Int) (h : v < a.length) : satL v a = (a.take v ++ [0]) ++ a.drop (v + 1) := by
  unfold satL cutD
  rw [HT.sIx_nat, HT.sIx_none, HT.sIx_nat, HT.sIx_none, Nat.min_eq_left (by omega), Nat.min_eq_left (by omega), Nat.sub_zero, List.drop_zero, List.take_of_length_le (l := a.drop (v + 1)) (by rw [List.length_drop]; omega)]
abbrev satS (v : Nat) (A : List (List Int)) : List (List Int) := A.map (satL v)
theorem mon_sat {n v : Nat} {w : Int} {a : List Int} (hw : 0 ≤ w) (hv : v < n) (ha : Mon n w a) : Mon n w (satL v a) := by
  rw [satL_eq v a (by rw [ha.1]; exact hv)]
  have := ha.1
  refine ⟨by simp; omega, fun x hx => ?_⟩
  rcases List.mem_append.mp hx with hx | hx
  · rcases List.mem_append.mp hx with hx | hx
    · exact ha.2 x (List.mem_of_mem_take hx)
    · rw [List.mem_singleton.mp hx]; exact ⟨by omega, hw⟩
  · exact ha.2 x (List.mem_of_mem_drop hx)
def sp_saturated : SpD := fun xs st Q => ∃ (A : List (List Int)) (n v : Nat), xs = [.d (idl n A), I v] ∧ 1 ≤ n ∧ n ≤ 1000 ∧ v < n ∧ Idl n 60 60 A ∧ Q (.d (idl n (minL (satS v A)))) st
theorem len_saturated : ∀ xs st Q, sp_saturated xs st Q → xs.length = 2 := by rintro xs st Q ⟨a, n, v, rfl, _⟩; rfl
theorem sem_saturated : ∀ xs st Q, sp_saturated xs st Q → rd_saturated sp_made { nx := fun _ st' => Fg Q (.d .none) st', rt := Fg Q } (startD 3 xs) st := by
  rintro xs st Q ⟨A, n, v, rfl, h1, h2, hv, hA, K⟩
  have e0 : startD 3 [.d (idl n A), I v] = [some (.d (idl n A)), some (I v), none] := rfl
  rw [e0]
  unfold rd_saturated
  have cA := hA.2.1
  have lA := hA.len
  walk_at "D"
  refine ⟨size_of cA (by omega), ?_⟩
  rw [List.map_map]
  refine comp_mapT _ (fun a => .d (TI (satL v a))) trivial _ _ ?_ ?_
  · intro a ha Q1 h
    walk_at "D"
    simp only [cutD_map]
    walk_at "D"
    have la := lA a ha
    have l1 := cutD_len a none (some (v : Int))
    have l2 := cutD_len a (some ((v : Int) + 1)) none
    refine ⟨by decide, by rw [sizeL]; omega, by rw [sizeL]; omega, ?_⟩
    rw [mk_appJ]
    exact h
  · have e1 : [] ++ A.map (fun a => DV.d (TI (satL v a))) = ((satS v A).map TI).map .d := by
      rw [List.nil_append, List.map_map, List.map_map]
      rfl
    rw [e1]
    walk_at "D"
    refine ⟨_, satS v A, n, rfl, rfl, ⟨h1, h2, by rw [List.length_map]; omega, fun t ht => ?_⟩, Nat.le_trans (min_len _) (by rw [List.length_map]; exact cA), fg_ret K⟩
    obtain ⟨a, ha, rfl⟩ := List.mem_map.mp ht
    exact mon_sat (by decide) hv (hA.2.2 a ha)
/-! colon_of -/
def colF (A F : List (List Int)) (g : List Int) : List (List Int) := minL (pairL lcmL F (minL (cutS A g)))
def colL (n : Nat) (A B : List (List Int)) : List (List Int) := B.foldl (colF A) [List.replicate n 0]
theorem colF_idl {A F : List (List Int)} {g : List Int} {n w : Nat} (hn3 : n ≤ 3) (hA : ∀ a ∈ A, Mon n w a) (hF : ∀ a ∈ F, Mon n w a) (hg : NN n g) : Idl n w ((w + 1) * (w + 1)) (colF A F g) := by
  have hC : ∀ a ∈ minL (cutS A g), Mon n w a := fun a ha => by
    obtain ⟨b, hb, rfl⟩ := List.mem_map.mp (min_sub a ha)
    exact mon_cut (hA b hb) hg
  have hP : ∀ a ∈ pairL lcmL F (minL (cutS A g)), Mon n w a := fun a ha => by
    obtain ⟨x, hx, y, hy, rfl⟩ := mem_pairL.mp ha
    exact mon_lcm (hF x hx) (hC y hy)
  have lP : ∀ a ∈ pairL lcmL F (minL (cutS A g)), a.length = n := fun a ha => (hP a ha).1
  exact ⟨min_idem lP, anti_len (min_idem lP) (fun a ha => hP a (min_sub a ha)) hn3, fun a ha => hP a (min_sub a ha)⟩
theorem colL_ok {A : List (List Int)} {n w : Nat} (hn3 : n ≤ 3) (hw : w ≤ 6) (hA : ∀ a ∈ A, Mon n w a) : ∀ (B F : List (List Int)), (∀ g ∈ B, NN n g) → (∀ a ∈ F, Mon n w a) → F.length ≤ 60 → (∀ a ∈ B.foldl (colF A) F, Mon n w a) ∧ (B.foldl (colF A) F).length ≤ 60
  | [], F, _, hF, hl => ⟨hF, hl⟩
  | g :: B, F, hB, hF, hl => by
    have I1 := colF_idl hn3 hA hF (hB g List.mem_cons_self)
    have hsq : (w + 1) * (w + 1) ≤ 7 * 7 := Nat.mul_le_mul (by omega) (by omega)
    exact colL_ok hn3 hw hA B (colF A F g) (fun x hx => hB x (List.mem_cons_of_mem _ hx)) I1.2.2 (by have := I1.2.1; omega)
def sp_colon_of : SpD := fun xs st Q => ∃ (A B : List (List Int)) (n w : Nat), xs = [.d (idl n A), .d (idl n B)] ∧ 1 ≤ n ∧ n ≤ 3 ∧ w ≤ 6 ∧ Idl n w 60 A ∧ (∀ g ∈ B, NN n g) ∧ B.length ≤ 1000 ∧ Q (.d (idl n (minL (colL n A B)))) st
theorem len_colon_of : ∀ xs st Q, sp_colon_of xs st Q → xs.length = 2 := by rintro xs st Q ⟨a, b, n, w, rfl, _⟩; rfl
theorem sem_colon_of : ∀ xs st Q, sp_colon_of xs st Q → rd_colon_of sp_cut sp_least_ones sp_lcm_of sp_made { nx := fun _ st' => Fg Q (.d .none) st', rt := Fg Q } (startD 7 xs) st := by
  rintro xs st Q ⟨A, B, n, w, rfl, h1, h3, hw, hA, hB, cB, K⟩
  have e0 : startD 7 [.d (idl n A), .d (idl n B)] = [some (.d (idl n A)), some (.d (idl n B)), none, none, none, none, none] := rfl
  rw [e0]
  unfold rd_colon_of
  have cA := hA.2.1
  have lA := hA.len
  have z0 : ∀ a ∈ [List.replicate n (0 : Int)], Mon n w a := fun a ha => by
    rw [List.mem_singleton.mp ha]
    exact (mon_zero n).mono (by omega)
  have ok := fun i => colL_ok h3 hw hA.2.2 (B.take i) [List.replicate n 0] (fun g hg => hB g (List.mem_of_mem_take hg)) z0 (by simp)
  refine seq fun N hN => ?_
  walk_at "D"
  refine ⟨by decide, by simp, by omega, by omega, by decide, by decide, hN _ _ ?_⟩; clear hN N
  refine seq fun N hN => ?_
  walk_at "D"
  rw [List.map_map]
  refine for_byT _ (fun i ε s => Le st s ∧ ∃ (x : DV) (y3 y4 : Option DV), ε = [some (.d (idl n A)), some (.d (idl n B)), some x, y3, y4, none, none] ∧ sitems s x = some (((colL n A (B.take i)).map TI).map .d)) ⟨Le.refl _, _, none, none, rfl, rfl⟩ (fun _ _ _ _ => trivial) ?_ ?_
  · rintro i g ε s hg ⟨le, x, y3, y4, rfl, hx⟩ L hL
    have hgB := hB g (List.mem_of_getElem? hg)
    obtain ⟨hF, cF⟩ := ok i
    have hnx : colL n A (B.take (i + 1)) = colF A (colL n A (B.take i)) g := by
      unfold colL
      rw [List.take_succ, hg, List.foldl_append]
      rfl
    have hFe : (B.take i).foldl (colF A) [List.replicate n 0] = colL n A (B.take i) := rfl
    rw [hFe] at hF cF
    generalize colL n A (B.take i) = F at hx hF cF hnx
    walk_at "D"
    refine seq fun N hN => ?_
    walk_at "D"
    refine ⟨size_of cA (by omega), ?_⟩
    rw [List.map_map]
    refine comp_mapT _ (fun a => .d (TI (cutL a g))) trivial _ _ ?_ ?_
    · intro a ha Q1 h
      walk_at "D"
      exact ⟨a, g, rfl, by rw [lA a ha]; omega, h⟩
    have e1 : [] ++ A.map (fun a => DV.d (TI (cutL a g))) = ((cutS A g).map TI).map .d := by
      rw [List.nil_append, List.map_map, List.map_map]
      rfl
    rw [e1]
    walk_at "D"
    have okC : ∀ t ∈ cutS A g, Mon n w t := fun t ht => by
      obtain ⟨a, ha, rfl⟩ := List.mem_map.mp ht
      exact mon_cut (hA.2.2 a ha) hgB
    refine ⟨_, cutS A g, n, w, rfl, rfl, ⟨h1, by omega, by rw [List.length_map]; omega, okC⟩, fun p s1 hp hs fr => hN _ _ ?_⟩; clear hN N
    have le1 := le_up hp fr
    have hx1 := sitems_le hx le1
    obtain ⟨inv, hsrc, hinv⟩ := src_of2 hx1
    have okM : ∀ t ∈ minL (cutS A g), Mon n w t := fun t ht => okC t (min_sub t ht)
    have cM : (minL (cutS A g)).length ≤ 60 := Nat.le_trans (min_len _) (by rw [List.length_map]; exact cA)
    walk_at "F"
    simp only [qiSeq]
    walk_at "F"
    simp only [hsrc]
    rw [List.map_map]
    generalize hMe : minL (cutS A g) = M at hs okM cM hnx
    refine comp2_T (DV.d ∘ TI) (fun a => M.map fun b => .d (TI (lcmL a b))) 4000 (hinv _ hx1) _ _ ?_ ?_ ?_
    · intro a ha acc Kc hacc k
      walk_at "D"
      simp only [qYes, hs]
      walk_at "D"
      refine ⟨by rw [sizeL]; omega, ?_⟩
      rw [List.map_map]
      refine comp_mapT _ (fun b => .d (TI (lcmL a b))) (by rw [← List.map_map]; exact hs) _ _ ?_ k
      intro b hb Q1 h
      walk_at "D"
      exact ⟨a, b, rfl, by rw [(hF a ha).1]; omega, h⟩
    · have e : (F.flatMap fun a => M.map fun b => DV.d (TI (lcmL a b))).length = (pairL lcmL F M).length := by
        unfold pairL
        simp only [List.length_flatMap, List.length_map]
      have : F.length * M.length ≤ 60 * 60 := Nat.mul_le_mul cF cM
      rw [List.nil_append, e, len_pairL]
      omega
    · have e : [] ++ (F.flatMap fun a => M.map fun b => DV.d (TI (lcmL a b))) = ((pairL lcmL F M).map TI).map .d := by
        unfold pairL
        rw [List.nil_append, List.map_flatMap, List.map_flatMap]
        simp only [List.map_map]
        rfl
      rw [e]
      walk_at "D"
      have hl : (pairL lcmL F M).length ≤ 60 * 60 := by rw [len_pairL]; exact Nat.mul_le_mul cF cM
      refine ⟨_, pairL lcmL F M, n, w, rfl, rfl, ⟨h1, by omega, by omega, fun t ht => ?_⟩, fun p2 s2 hp2 hs2 fr2 => ?_⟩
      · obtain ⟨a, ha, b, hb, rfl⟩ := mem_pairL.mp ht
        exact mon_lcm (hF a ha) (okM b hb)
      · refine hL _ _ ⟨le.trans (le1.trans (le_up hp2 fr2)), .r p2, _, _, rfl, ?_⟩
        rw [hnx]
        unfold colF
        rw [hMe]
        simp only [sitems, titems, litems, hs2]
  · rintro ε s ⟨le, x, y3, y4, rfl, hx⟩
    refine hN _ _ ?_
    rw [List.take_length] at hx
    obtain ⟨hF, cF⟩ := ok B.length
    rw [List.take_length] at hF cF
    walk_at "D"
    exact ⟨x, colL n A B, n, rfl, hx, ⟨h1, by omega, by show (colL n A B).length < 4000; exact Nat.lt_of_le_of_lt cF (by decide), fun t ht => (hF t ht).mono (by omega)⟩, Nat.le_trans (min_len _) cF, fg_le le K⟩
end UC
end

section
set_option linter.all false
set_option maxRecDepth 100000
set_option maxHeartbeats 1000000
namespace UC
open PySem L2 DL RD
theorem gd_map {a : List Int} {f : Int → Int} {n j : Nat} (ha : a.length = n) (hj : j < n) : gd (a.map f) j = f (gd a j) := by
  have h : j < a.length := by rw [ha]; exact hj
  rw [← gd_eq (a := a.map f) (by rw [List.length_map]; exact h), ← gd_eq h, List.getElem_map]
theorem len_rad {a : List Int} {n : Nat} (ha : a.length = n) : (radL a).length = n := by rw [radL, List.length_map]; exact ha
theorem gd_rad {a : List Int} {n j : Nat} (ha : a.length = n) (hj : j < n) : gd (radL a) j = min (gd a j) 1 := gd_map ha hj
theorem keeps_rad (n : Nat) : Keeps n radL := by
  refine ⟨fun a ha => ⟨len_rad ha.1, fun x hx => ?_⟩, fun a b ha hb h => ?_⟩
  · obtain ⟨e, he, rfl⟩ := List.mem_map.mp hx
    have := ha.2 e he
    omega
  · rw [divB_iff (len_rad ha.1) (len_rad hb.1)]
    intro j hj
    rw [gd_rad ha.1 hj, gd_rad hb.1 hj]
    have := (divB_iff ha.1 hb.1).mp h j hj
    omega
theorem rad_lcm {n : Nat} {a b : List Int} (ha : NN n a) (hb : NN n b) : radL (lcmL a b) = lcmL (radL a) (radL b) := by
  have l1 : (lcmL a b).length = n := len_zw ha.1 hb.1
  rw [gd_ext (len_rad l1) (lenLcm (len_rad ha.1) (len_rad hb.1))]
  intro j hj
  rw [gd_rad l1 hj]
  unfold lcmL
  rw [gd_zw ha.1 hb.1 hj, gd_zw (len_rad ha.1) (len_rad hb.1) hj, gd_rad ha.1 hj, gd_rad hb.1 hj]
  omega
theorem rad_mul {n : Nat} {a b : List Int} (ha : NN n a) (hb : NN n b) : radL (mulL a b) = lcmL (radL a) (radL b) := by
  have l1 : (mulL a b).length = n := len_zw ha.1 hb.1
  rw [gd_ext (len_rad l1) (lenLcm (len_rad ha.1) (len_rad hb.1))]
  intro j hj
  rw [gd_rad l1 hj]
  unfold lcmL mulL
  rw [gd_zw ha.1 hb.1 hj, gd_zw (len_rad ha.1) (len_rad hb.1) hj, gd_rad ha.1 hj, gd_rad hb.1 hj]
  have := ha.at hj
  have := hb.at hj
  omega
theorem rad_rad (a : List Int) : radL (radL a) = radL a := by
  unfold radL
  rw [List.map_map]
  refine List.map_congr_left fun x _ => ?_
  show min (min x 1) 1 = min x 1
  omega
theorem rad_div {n : Nat} {a : List Int} (ha : NN n a) : divB (radL a) a = true := by
  rw [divB_iff (len_rad ha.1) ha.1]
  intro j hj
  rw [gd_rad ha.1 hj]
  omega
theorem len_sat {a : List Int} {n v : Nat} (hv : v < n) (ha : a.length = n) : (satL v a).length = n := by
  rw [satL_eq v a (by omega)]
  simp
  omega
theorem gd_sat {a : List Int} {n v j : Nat} (hv : v < n) (ha : a.length = n) (hj : j < n) : gd (satL v a) j = if j = v then 0 else gd a j := by
  have hl := len_sat hv ha
  unfold gd
  rw [List.getD_eq_getElem?_getD, List.getD_eq_getElem?_getD, satL_eq v a (by omega)]
  by_cases h : j < v
  · rw [if_neg (by omega), List.append_assoc, List.getElem?_append_left (by simp; omega), List.getElem?_take_of_lt h]
  · by_cases e : j = v
    · subst e
      rw [if_pos rfl, List.getElem?_append_left (by simp; omega), List.getElem?_append_right (by rw [List.length_take]; omega)]
      simp [show j - min j a.length = 0 by omega]
    · rw [if_neg e, List.getElem?_append_right (by simp; omega), List.getElem?_drop]
      congr 2
      simp
      omega
theorem keeps_sat {n v : Nat} (hv : v < n) : Keeps n (satL v) := by
  refine ⟨fun a ha => ⟨len_sat hv ha.1, fun x hx => ?_⟩, fun a b ha hb h => ?_⟩
  · rw [satL_eq v a (by rw [ha.1]; exact hv)] at hx
    rcases List.mem_append.mp hx with hx | hx
    · rcases List.mem_append.mp hx with hx | hx
      · exact ha.2 x (List.mem_of_mem_take hx)
      · rw [List.mem_singleton.mp hx]; exact Int.le_refl _
    · exact ha.2 x (List.mem_of_mem_drop hx)
  · rw [divB_iff (len_sat hv ha.1) (len_sat hv hb.1)]
    intro j hj
    rw [gd_sat hv ha.1 hj, gd_sat hv hb.1 hj]
    have := (divB_iff ha.1 hb.1).mp h j hj
    split <;> omega
theorem sat_lcm {n v : Nat} (hv : v < n) {a b : List Int} (ha : NN n a) (hb : NN n b) : satL v (lcmL a b) = lcmL (satL v a) (satL v b) := by
  have l1 : (lcmL a b).length = n := len_zw ha.1 hb.1
  have l2 := len_sat hv ha.1
  have l3 := len_sat hv hb.1
  rw [gd_ext (len_sat hv l1) (lenLcm l2 l3)]
  intro j hj
  rw [gd_sat hv l1 hj]
  unfold lcmL
  rw [gd_zw ha.1 hb.1 hj, gd_zw l2 l3 hj, gd_sat hv ha.1 hj, gd_sat hv hb.1 hj]
  split <;> omega
theorem sat_div {n v : Nat} (hv : v < n) {a : List Int} (ha : NN n a) : divB (satL v a) a = true := by
  rw [divB_iff (len_sat hv ha.1) ha.1]
  intro j hj
  rw [gd_sat hv ha.1 hj]
  have := ha.at hj
  split <;> omega
/-! colon_of -/
theorem colF_nns {n : Nat} {A F : List (List Int)} {g : List Int} (hA : NNs n A) (hF : NNs n F) (hg : NN n g) : NNs n (colF A F g) :=
  (hF.lcm ((hA.map (keeps_cut hg)).min)).min
theorem zero_nn (n : Nat) : NN n (List.replicate n 0) := (mon_zero n).nn
theorem fold_nns {n : Nat} {A : List (List Int)} (hA : NNs n A) : ∀ (B F : List (List Int)), NNs n B → NNs n F → NNs n (B.foldl (colF A) F)
  | [], F, _, hF => hF
  | g :: B, F, hB, hF => fold_nns hA B _ (fun x hx => hB x (List.mem_cons_of_mem _ hx)) (colF_nns hA hF (hB g List.mem_cons_self))
theorem in_fold {n : Nat} {A : List (List Int)} {c : List Int} (hA : NNs n A) (hc : NN n c) : ∀ (B F : List (List Int)), NNs n B → NNs n F → (inL (B.foldl (colF A) F) c = true ↔ inL F c = true ∧ ∀ g ∈ B, inL A (mulL c g) = true)
  | [], F, _, hF => ⟨fun h => ⟨h, fun g hg => nomatch hg⟩, fun h => h.1⟩
  | g :: B, F, hB, hF => by
    have hg := hB g List.mem_cons_self
    rw [List.foldl_cons, in_fold hA hc B _ (fun x hx => hB x (List.mem_cons_of_mem _ hx)) (colF_nns hA hF hg)]
    unfold colF
    rw [in_meet hF.len (hA.map (keeps_cut hg)).min.len hc.1, Bool.and_eq_true, in_colon_by hA.len hg.1 hc]
    constructor
    · rintro ⟨⟨h1, h2⟩, h3⟩
      exact ⟨h1, fun x hx => (List.mem_cons.mp hx).elim (fun e => e ▸ h2) (h3 x)⟩
    · rintro ⟨h1, h2⟩
      exact ⟨⟨h1, h2 g List.mem_cons_self⟩, fun x hx => h2 x (List.mem_cons_of_mem _ hx)⟩
theorem div_zero {n : Nat} {c : List Int} (hc : NN n c) : divB (List.replicate n 0) c = true := by
  rw [divB_iff (List.length_replicate ..) hc.1]
  intro j hj
  rw [gd_rep hj]
  exact hc.at hj
theorem colL_nns {n : Nat} {A B : List (List Int)} (hA : NNs n A) (hB : NNs n B) : NNs n (colL n A B) := fold_nns hA B _ hB fun a ha => by
  rw [List.mem_singleton.mp ha]
  exact zero_nn n
theorem in_colL {n : Nat} {A B : List (List Int)} {c : List Int} (hA : NNs n A) (hB : NNs n B) (hc : NN n c) : inL (minL (colL n A B)) c = true ↔ ∀ g ∈ B, inL A (mulL c g) = true := by
  have e : inL (minL (colL n A B)) c = true ↔ inL (colL n A B) c = true := by
    rw [in_min (colL_nns hA hB).len hc.1, inL_iff]
  rw [e]
  unfold colL
  rw [in_fold hA hc B _ hB fun a ha => by
    rw [List.mem_singleton.mp ha]
    exact zero_nn n]
  exact ⟨fun h => h.2, fun h => ⟨inL_iff.mpr ⟨_, List.mem_singleton.mpr rfl, div_zero hc⟩, h⟩⟩
section
variable {n : Nat} {A B C : List (List Int)}
/-- what holds for all of some generators holds for those of the ideal -/
theorem all_min {c : List Int} (hA : NNs n A) (hB : NNs n B) (hc : NN n c) : (∀ g ∈ minL B, inL A (mulL c g) = true) ↔ ∀ g ∈ B, inL A (mulL c g) = true := by
  constructor
  · intro h g hg
    obtain ⟨r, h1, h2⟩ := (mins_minL hB.len).cov g hg
    have nr := hB.min r h1
    exact in_up hA.len (lenMul hc.1 nr.1) (lenMul hc.1 (hB g hg).1) (div_mul2 hc.1 nr.1 hc.1 (hB g hg).1 (divB_refl c) h2) (h r h1)
  · intro h g hg
    exact h g (min_sub g hg)
theorem colon_meet (hA : NNs n A) (hB : NNs n B) (hC : NNs n C) : minL (colL n (minL (pairL lcmL A B)) C) = minL (pairL lcmL (minL (colL n A C)) (minL (colL n B C))) := by
  have cA := colL_nns hA hC
  have cB := colL_nns hB hC
  have cM := colL_nns (hA.lcm hB).min hC
  refine red_extN (n := n) (min_idem cM.len) (min_idem (cA.min.lcm cB.min).len) cM.min (cA.min.lcm cB.min).min fun c hc => ?_
  rw [in_colL (hA.lcm hB).min hC hc, in_meet cA.min.len cB.min.len hc.1, Bool.and_eq_true, in_colL hA hC hc, in_colL hB hC hc]
  constructor
  · intro h
    refine ⟨fun g hg => ?_, fun g hg => ?_⟩ <;>
    · have := h g hg
      rw [in_meet hA.len hB.len (lenMul hc.1 (hC g hg).1), Bool.and_eq_true] at this
      first | exact this.1 | exact this.2
  · rintro ⟨h1, h2⟩ g hg
    rw [in_meet hA.len hB.len (lenMul hc.1 (hC g hg).1), Bool.and_eq_true]
    exact ⟨h1 g hg, h2 g hg⟩
theorem colon_sum (hA : NNs n A) (hB : NNs n B) (hC : NNs n C) : minL (colL n A (minL (B ++ C))) = minL (pairL lcmL (minL (colL n A B)) (minL (colL n A C))) := by
  have cB := colL_nns hA hB
  have cC := colL_nns hA hC
  have cM := colL_nns hA (hB.app hC).min
  refine red_extN (n := n) (min_idem cM.len) (min_idem (cB.min.lcm cC.min).len) cM.min (cB.min.lcm cC.min).min fun c hc => ?_
  rw [in_colL hA (hB.app hC).min hc, all_min hA (hB.app hC) hc, in_meet cB.min.len cC.min.len hc.1, Bool.and_eq_true, in_colL hA hB hc, in_colL hA hC hc]
  constructor
  · intro h
    exact ⟨fun g hg => h g (List.mem_append_left _ hg), fun g hg => h g (List.mem_append_right _ hg)⟩
  · rintro ⟨h1, h2⟩ g hg
    exact (List.mem_append.mp hg).elim (h1 g) (h2 g)
theorem colon_prod (hA : NNs n A) (hB : NNs n B) (hC : NNs n C) : minL (colL n A (minL (pairL mulL B C))) = minL (colL n (minL (colL n A B)) C) := by
  have cB := colL_nns hA hB
  have c1 := colL_nns hA (hB.mul hC).min
  have c2 := colL_nns cB.min hC
  refine red_extN (n := n) (min_idem c1.len) (min_idem c2.len) c1.min c2.min fun c hc => ?_
  rw [in_colL hA (hB.mul hC).min hc, all_min hA (hB.mul hC) hc, in_colL cB.min hC hc]
  constructor
  · intro h x hx
    rw [in_colL hA hB (nn_mul hc (hC x hx))]
    intro b hb
    have := h (mulL b x) (mem_pairL.mpr ⟨b, hb, x, hx, rfl⟩)
    rw [mul_comm (hB b hb).1 (hC x hx).1, mul_assoc hc.1 (hC x hx).1 (hB b hb).1] at this
    exact this
  · intro h g hg
    obtain ⟨b, hb, x, hx, rfl⟩ := mem_pairL.mp hg
    have := (in_colL hA hB (nn_mul hc (hC x hx))).mp (h x hx) b hb
    rw [mul_comm (hB b hb).1 (hC x hx).1, mul_assoc hc.1 (hC x hx).1 (hB b hb).1]
    exact this
theorem colon_one {f : List Int} (hA : NNs n A) (hf : NN n f) : minL (colL n A [f]) = minL (cutS A f) := by
  have hF : NNs n [f] := fun a ha => by rw [List.mem_singleton.mp ha]; exact hf
  have c1 := colL_nns hA hF
  have c2 := hA.map (keeps_cut hf)
  refine red_extN (n := n) (min_idem c1.len) (min_idem c2.len) c1.min c2.min fun c hc => ?_
  rw [in_colL hA hF hc, in_colon_by hA.len hf.1 hc]
  exact ⟨fun h => h f (List.mem_singleton.mpr rfl), fun h g hg => by rw [List.mem_singleton.mp hg]; exact h⟩
theorem one_of {X : List (List Int)} (hX : minL X = X) (lX : NNs n X) : X = [List.replicate n 0] ↔ inL X (List.replicate n 0) = true := by
  constructor
  · intro e
    rw [e]
    exact inL_iff.mpr ⟨_, List.mem_singleton.mpr rfl, divB_refl _⟩
  · intro h
    have l1 : NNs n [List.replicate n 0] := fun a ha => by rw [List.mem_singleton.mp ha]; exact zero_nn n
    refine red_extN (n := n) hX (min_one _) lX l1 fun c hc => ?_
    exact ⟨fun _ => inL_iff.mpr ⟨_, List.mem_singleton.mpr rfl, div_zero hc⟩, fun _ => in_up lX.len (zero_nn n).1 hc.1 (div_zero hc) h⟩
theorem mul_zero_l {g : List Int} (hg : g.length = n) : mulL (List.replicate n 0) g = g := by
  rw [mul_comm (List.length_replicate ..) hg, mul_zero hg]
theorem colon_whole (hA : NNs n A) (hB : NNs n B) : (B.all fun g => inL A g) = decide (minL (colL n A B) = [List.replicate n 0]) := bool_dec <| by
  have c1 := colL_nns hA hB
  rw [one_of (min_idem c1.len) c1.min, in_colL hA hB (zero_nn n), List.all_eq_true]
  constructor
  · intro h g hg
    rw [mul_zero_l (hB g hg).1]
    exact h g hg
  · intro h g hg
    have := h g hg
    rw [mul_zero_l (hB g hg).1] at this
    exact this
theorem rad_of_sum (hA : NNs n A) (hB : NNs n B) : minL (radS (minL (A ++ B))) = minL (radS (minL (minL (radS A) ++ minL (radS B)))) := by
  have kr := keeps_rad n
  show minL ((minL (A ++ B)).map radL) = minL ((minL (minL (A.map radL) ++ minL (B.map radL))).map radL)
  have rA := hA.map kr
  have rB := hB.map kr
  rw [img_sum kr hA hB, img_sum kr rA.min rB.min, img_min kr rA, img_min kr rB, List.map_map, List.map_map]
  have e : radL ∘ radL = radL := funext rad_rad
  rw [e]
end
/-! the calls of k91: exponents at most 3, up to 60 generators, three variables -/
section
variable {n : Nat} {A B : List (List Int)} {st : Sto} {Q : DV → Sto → Prop}
abbrev J (n : Nat) (A : List (List Int)) : Prop := Idl n ((3 : Nat) : Int) 49 A
theorem anti_J {S : List (List Int)} (hn : n ≤ 3) (h : ∀ a ∈ S, Mon n ((3 : Nat) : Int) a) : J n (minL S) := by
  have l : ∀ a ∈ S, a.length = n := fun a ha => (h a ha).1
  have m : ∀ a ∈ minL S, Mon n ((3 : Nat) : Int) a := fun a ha => h a (min_sub a ha)
  exact ⟨min_idem l, Nat.le_trans (anti_len (min_idem l) m hn) (by decide), m⟩
theorem j_sum (h1 : 1 ≤ n) (h3 : n ≤ 3) (hA : J n A) (hB : J n B) (k : J n (minL (A ++ B)) → Q (.d (idl n (minL (A ++ B)))) st) : sp_sum_of [.d (idl n A), .d (idl n B)] st Q := by
  have hm : ∀ a ∈ A ++ B, Mon n ((3 : Nat) : Int) a := fun a ha => (List.mem_append.mp ha).elim (hA.2.2 a) (hB.2.2 a)
  have J1 := anti_J h3 hm
  have := hA.2.1
  have := hB.2.1
  exact ⟨A, B, n, rfl, ⟨h1, by omega, by rw [List.length_append]; omega, fun t ht => (hm t ht).mono (by decide)⟩, Nat.le_trans J1.2.1 (by decide), by omega, by omega, fun a ha => by rw [hA.len a ha]; omega, k J1⟩
theorem j_meet (h1 : 1 ≤ n) (h3 : n ≤ 3) (hA : J n A) (hB : J n B) (k : J n (minL (pairL lcmL A B)) → Q (.d (idl n (minL (pairL lcmL A B)))) st) : sp_meet_of [.d (idl n A), .d (idl n B)] st Q := by
  have hm : ∀ a ∈ pairL lcmL A B, Mon n ((3 : Nat) : Int) a := fun a ha => by
    obtain ⟨x, hx, y, hy, rfl⟩ := mem_pairL.mp ha
    exact mon_lcm (hA.2.2 x hx) (hB.2.2 y hy)
  have J1 := anti_J h3 hm
  have := hA.2.1
  have := hB.2.1
  have hl : (pairL lcmL A B).length ≤ 49 * 49 := by rw [len_pairL]; exact Nat.mul_le_mul hA.2.1 hB.2.1
  exact ⟨A, B, n, rfl, ⟨h1, by omega, by omega, fun t ht => (hm t ht).mono (by decide)⟩, Nat.le_trans J1.2.1 (by decide), by omega, by omega, fun a ha => by rw [hA.len a ha]; omega, k J1⟩
theorem j_img {h : List Int → List Int} {v : Int} (hm : ∀ a ∈ A, Mon n v (h a)) (hv : v ≤ 3) (h3 : n ≤ 3) : J n (minL (A.map h)) := anti_J h3 fun t ht => by
  obtain ⟨a, ha, rfl⟩ := List.mem_map.mp ht
  exact (hm a ha).mono (by omega)
theorem j_60 (hA : J n A) : Idl n 60 60 A := hA.mono (by decide) (by decide)
theorem j_by {f : List Int} (h1 : 1 ≤ n) (h3 : n ≤ 3) (hA : J n A) (hf : NN n f) (k : J n (minL (cutS A f)) → Q (.d (idl n (minL (cutS A f)))) st) : sp_colon_by [.d (idl n A), .d (TI f)] st Q :=
  ⟨A, f, n, rfl, h1, by omega, j_60 hA, hf, k (j_img (fun a ha => mon_cut (hA.2.2 a ha) hf) (by decide) h3)⟩
theorem j_rad (h1 : 1 ≤ n) (h3 : n ≤ 3) (hA : Idl n 60 60 A) (k : J n (minL (radS A)) → Q (.d (idl n (minL (radS A)))) st) : sp_radical_of [.d (idl n A)] st Q :=
  ⟨A, n, rfl, h1, by omega, hA, k (j_img (fun a ha => mon_rad (hA.2.2 a ha)) (by decide) h3)⟩
theorem j_sat {v : Nat} (h1 : 1 ≤ n) (h3 : n ≤ 3) (hv : v < n) (hA : J n A) (k : J n (minL (satS v A)) → Q (.d (idl n (minL (satS v A)))) st) : sp_saturated [.d (idl n A), I v] st Q :=
  ⟨A, n, v, rfl, h1, by omega, hv, j_60 hA, k (j_img (fun a ha => mon_sat (by decide) hv (hA.2.2 a ha)) (by decide) h3)⟩
theorem j_of (h1 : 1 ≤ n) (h3 : n ≤ 3) (hA : J n A) (hB : NNs n B) (cB : B.length ≤ 1000) (k : J n (minL (colL n A B)) → Q (.d (idl n (minL (colL n A B)))) st) : sp_colon_of [.d (idl n A), .d (idl n B)] st Q := by
  have ok := colL_ok (w := 3) h3 (by decide) hA.2.2 B [List.replicate n 0] hB (fun a ha => by
    rw [List.mem_singleton.mp ha]
    exact (mon_zero n).mono (by omega)) (by simp)
  exact ⟨A, B, n, 3, rfl, h1, h3, by decide, hA.mono (Int.le_refl _) (by decide), hB, cB, k (anti_J h3 ok.1)⟩
theorem j_within (hA : J n A) (hB : J n B) (k : Q (Bo (A.all fun g => inL B g)) st) : sp_is_within [.d (idl n A), .d (idl n B)] st Q := by
  have := hA.2.1
  have := hB.2.1
  exact ⟨A, B, _, _, rfl, by omega, by omega, k⟩
end
end UC
end

section
set_option linter.all false
set_option maxRecDepth 100000
set_option maxHeartbeats 1000000
namespace UC
open PySem L2 DL RD
/-! components of what operations make -/
theorem comp_idle {n : Nat} {G S : List (List Int)} (hS : NNs n S) (up : ∀ p ∈ S, ∀ g ∈ G, holdsB p g = true) (all : ∀ q, NN n q → (∀ g ∈ G, holdsB q g = true) → ∃ p ∈ S, aroundB q p = true) : Comp n G (idleL S) := by
  refine ⟨fun p hp => hS p (mem_idleL.mp hp).1, fun p hp => up p (mem_idleL.mp hp).1, fun q hq hall => ?_, fun p hp q hq h => (mem_idleL.mp hp).2 q (mem_idleL.mp hq).1 h⟩
  obtain ⟨p, hp, h1⟩ := all q hq hall
  obtain ⟨r, hr, h2⟩ := idle_below hS p hp
  exact ⟨r, hr, around_trans hq.1 (hS p hp).1 (hS r (mem_idleL.mp hr).1).1 h1 h2⟩
theorem compF_idle {n : Nat} {G S : List (List Int)} (hG : NNs n G) (hS : NNs n S) (up : ∀ p ∈ S, ∀ g ∈ G, holdsB p g = true) (all : ∀ q, NN n q → (∀ g ∈ G, holdsB q g = true) → ∃ p ∈ S, aroundB q p = true) : compF n G = idleL S :=
  (comp_compF hG).uniq (comp_idle hS up all) (ris_compF n G) (ris_idleL S)
theorem holds_min {n : Nat} {T : List (List Int)} {q : List Int} (hT : NNs n T) (hq : q.length = n) : (∀ g ∈ minL T, holdsB q g = true) ↔ ∀ g ∈ T, holdsB q g = true := by
  constructor
  · intro h g hg
    obtain ⟨r, h1, h2⟩ := (mins_minL hT.len).cov g hg
    exact holds_up hq (hT.min r h1).1 (hT g hg).1 h2 (h r h1)
  · exact fun h g hg => h g (min_sub g hg)
section
variable {n : Nat} {A B : List (List Int)}
def lessL (p b : List Int) : List Int := List.zipWith (fun x y => if 0 < x then x - y else 0) p b
theorem len_less {p b : List Int} (hp : p.length = n) (hb : b.length = n) : (lessL p b).length = n := len_zw hp hb
theorem gd_less {p b : List Int} {j : Nat} (hp : p.length = n) (hb : b.length = n) (hj : j < n) : gd (lessL p b) j = if 0 < gd p j then gd p j - gd b j else 0 := gd_zw hp hb hj
def colonParts (P : List (List Int)) (b : List Int) : List (List Int) := (P.filter fun p => !holdsB p b).map fun p => lessL p b
theorem comp_colon {b : List Int} (hA : NNs n A) (hb : NN n b) : compF n (minL (cutS A b)) = idleL (colonParts (compF n A) b) := by
  have C := comp_compF hA
  have hT : NNs n (cutS A b) := hA.map (keeps_cut hb)
  have no : ∀ p ∈ compF n A, holdsB p b = false → ∀ j < n, 0 < gd p j → gd b j < gd p j := fun p hp h j hj h0 => by
    refine Classical.byContradiction fun hlt => ?_
    rw [Bool.eq_false_iff] at h
    exact h ((holds_iff (C.nn p hp).1 hb.1).mpr ⟨j, hj, h0, by omega⟩)
  have mem : ∀ {x}, x ∈ colonParts (compF n A) b ↔ ∃ p ∈ compF n A, holdsB p b = false ∧ lessL p b = x := by
    intro x
    unfold colonParts
    rw [List.mem_map]
    constructor
    · rintro ⟨p, hp, rfl⟩
      obtain ⟨h1, h2⟩ := List.mem_filter.mp hp
      exact ⟨p, h1, by simpa using h2, rfl⟩
    · rintro ⟨p, h1, h2, rfl⟩
      exact ⟨p, List.mem_filter.mpr ⟨h1, by simpa using h2⟩, rfl⟩
  refine compF_idle hT.min (fun x hx => ?_) (fun x hx => (holds_min hT ?_).mpr fun y hy => ?_) fun q hq hall => ?_
  · obtain ⟨p, hp, h, rfl⟩ := mem.mp hx
    refine nn_of_gd (len_less (C.nn p hp).1 hb.1) fun j hj => ?_
    rw [gd_less (C.nn p hp).1 hb.1 hj]
    split
    · have := no p hp h j hj (by assumption); omega
    · omega
  · obtain ⟨p, hp, h, rfl⟩ := mem.mp hx
    exact len_less (C.nn p hp).1 hb.1
  · obtain ⟨p, hp, h, rfl⟩ := mem.mp hx
    obtain ⟨g, hg, rfl⟩ := List.mem_map.mp hy
    obtain ⟨j, hj, h1, h2⟩ := (holds_iff (C.nn p hp).1 (hA g hg).1).mp (C.up p hp g hg)
    have h3 := no p hp h j hj h1
    refine (holds_iff (len_less (C.nn p hp).1 hb.1) (lenCut (hA g hg).1 hb.1)).mpr ⟨j, hj, ?_, ?_⟩
    · rw [gd_less (C.nn p hp).1 hb.1 hj, if_pos h1]; omega
    · rw [gd_less (C.nn p hp).1 hb.1 hj, if_pos h1]
      unfold cutL
      rw [gd_zw (hA g hg).1 hb.1 hj]
      omega
  · have hall' := (holds_min hT hq.1).mp hall
    let q' : List Int := List.zipWith (fun x y => if 0 < x then x + y else 0) q b
    have lq : q'.length = n := len_zw hq.1 hb.1
    have gq : ∀ j < n, gd q' j = if 0 < gd q j then gd q j + gd b j else 0 := fun j hj => gd_zw hq.1 hb.1 hj
    have nq : NN n q' := nn_of_gd lq fun j hj => by
      rw [gq j hj]
      have := hb.at hj
      split <;> omega
    obtain ⟨p, hp, h⟩ := C.all q' nq fun g hg => by
      obtain ⟨j, hj, h1, h2⟩ := (holds_iff hq.1 (lenCut (hA g hg).1 hb.1)).mp (hall' _ (List.mem_map.mpr ⟨g, hg, rfl⟩))
      unfold cutL at h2
      rw [gd_zw (hA g hg).1 hb.1 hj] at h2
      have := hb.at hj
      exact (holds_iff lq (hA g hg).1).mpr ⟨j, hj, by rw [gq j hj, if_pos h1]; omega, by rw [gq j hj, if_pos h1]; omega⟩
    have lp := (C.nn p hp).1
    have key : ∀ j < n, 0 < gd p j → 0 < gd q j ∧ gd q j + gd b j ≤ gd p j := fun j hj h0 => by
      have := (around_iff lq lp).mp h j hj h0
      rw [gq j hj] at this
      split at this
      · exact ⟨by assumption, this.2⟩
      · omega
    refine ⟨lessL p b, mem.mpr ⟨p, hp, ?_, rfl⟩, (around_iff hq.1 (len_less lp hb.1)).mpr fun j hj h0 => ?_⟩
    · rw [Bool.eq_false_iff]
      intro hh
      obtain ⟨j, hj, h1, h2⟩ := (holds_iff lp hb.1).mp hh
      have := key j hj h1
      omega
    · rw [gd_less lp hb.1 hj] at h0 ⊢
      split at h0
      · rename_i h1
        rw [if_pos h1]
        have := key j hj h1
        omega
      · omega
theorem comp_sat {v : Nat} (hv : v < n) (hA : NNs n A) : compF n (minL (satS v A)) = idleL ((compF n A).filter fun p => decide (gd p v = 0)) := by
  have C := comp_compF hA
  have hT : NNs n (satS v A) := hA.map (keeps_sat hv)
  have mem : ∀ {p}, p ∈ (compF n A).filter (fun p => decide (gd p v = 0)) ↔ p ∈ compF n A ∧ gd p v = 0 := by
    intro p
    rw [List.mem_filter, decide_eq_true_eq]
  refine compF_idle hT.min (fun p hp => C.nn p (mem.mp hp).1) (fun p hp => (holds_min hT (C.nn p (mem.mp hp).1).1).mpr fun y hy => ?_) fun q hq hall => ?_
  · obtain ⟨g, hg, rfl⟩ := List.mem_map.mp hy
    obtain ⟨hp1, hp2⟩ := mem.mp hp
    obtain ⟨j, hj, h1, h2⟩ := (holds_iff (C.nn p hp1).1 (hA g hg).1).mp (C.up p hp1 g hg)
    refine (holds_iff (C.nn p hp1).1 (len_sat hv (hA g hg).1)).mpr ⟨j, hj, h1, ?_⟩
    rw [gd_sat hv (hA g hg).1 hj, if_neg (fun e => by rw [e] at h1; omega)]
    exact h2
  · have hall' := (holds_min hT hq.1).mp hall
    have lq := len_setI (e := 0) hq.1 hv
    have gq : ∀ j < n, gd (setI q v 0) j = if j = v then 0 else gd q j := fun j hj => gd_setI hq.1 hv hj
    have nq : NN n (setI q v 0) := nn_of_gd lq fun j hj => by
      rw [gq j hj]
      have := hq.at hj
      split <;> omega
    obtain ⟨p, hp, h⟩ := C.all _ nq fun g hg => by
      obtain ⟨j, hj, h1, h2⟩ := (holds_iff hq.1 (len_sat hv (hA g hg).1)).mp (hall' _ (List.mem_map.mpr ⟨g, hg, rfl⟩))
      rw [gd_sat hv (hA g hg).1 hj] at h2
      split at h2
      · omega
      · rename_i e
        exact (holds_iff lq (hA g hg).1).mpr ⟨j, hj, by rw [gq j hj, if_neg e]; exact h1, by rw [gq j hj, if_neg e]; exact h2⟩
    have lp := (C.nn p hp).1
    have key : ∀ j < n, 0 < gd p j → j ≠ v ∧ 0 < gd q j ∧ gd q j ≤ gd p j := fun j hj h0 => by
      have := (around_iff lq lp).mp h j hj h0
      rw [gq j hj] at this
      split at this
      · omega
      · exact ⟨by assumption, this⟩
    refine ⟨p, mem.mpr ⟨hp, ?_⟩, (around_iff hq.1 lp).mpr fun j hj h0 => (key j hj h0).2⟩
    have := (C.nn p hp).at hv
    by_cases z : 0 < gd p v
    · exact absurd rfl (key v hv z).1
    · omega
theorem comp_rad (hA : NNs n A) : compF n (minL (radS A)) = idleL ((compF n A).map radL) := by
  have C := comp_compF hA
  have hT : NNs n (radS A) := hA.map (keeps_rad n)
  refine compF_idle hT.min (C.nn.map (keeps_rad n)) (fun x hx => (holds_min hT ((C.nn.map (keeps_rad n)) x hx).1).mpr fun y hy => ?_) fun q hq hall => ?_
  · obtain ⟨p, hp, rfl⟩ := List.mem_map.mp hx
    obtain ⟨g, hg, rfl⟩ := List.mem_map.mp hy
    obtain ⟨j, hj, h1, h2⟩ := (holds_iff (C.nn p hp).1 (hA g hg).1).mp (C.up p hp g hg)
    refine (holds_iff (len_rad (C.nn p hp).1) (len_rad (hA g hg).1)).mpr ⟨j, hj, ?_, ?_⟩
    · rw [gd_rad (C.nn p hp).1 hj]; omega
    · rw [gd_rad (C.nn p hp).1 hj, gd_rad (hA g hg).1 hj]; omega
  · have hall' := (holds_min hT hq.1).mp hall
    let q' : List Int := q.map fun x => if x = 1 then 1 else 0
    have lq : q'.length = n := by show (List.map _ _).length = n; rw [List.length_map]; exact hq.1
    have gq : ∀ j < n, gd q' j = if gd q j = 1 then 1 else 0 := fun j hj => gd_map hq.1 hj
    have nq : NN n q' := nn_of_gd lq fun j hj => by
      rw [gq j hj]
      split <;> omega
    obtain ⟨p, hp, h⟩ := C.all q' nq fun g hg => by
      obtain ⟨j, hj, h1, h2⟩ := (holds_iff hq.1 (len_rad (hA g hg).1)).mp (hall' _ (List.mem_map.mpr ⟨g, hg, rfl⟩))
      rw [gd_rad (hA g hg).1 hj] at h2
      have e : gd q j = 1 := by omega
      exact (holds_iff lq (hA g hg).1).mpr ⟨j, hj, by rw [gq j hj, if_pos e]; decide, by rw [gq j hj, if_pos e]; omega⟩
    have lp := (C.nn p hp).1
    refine ⟨radL p, List.mem_map.mpr ⟨p, hp, rfl⟩, (around_iff hq.1 (len_rad lp)).mpr fun j hj h0 => ?_⟩
    rw [gd_rad lp hj] at h0 ⊢
    have := (around_iff lq lp).mp h j hj (by omega)
    rw [gq j hj] at this
    split at this <;> omega
theorem holds_lcm {q x y : List Int} (hq : q.length = n) (hx : x.length = n) (hy : y.length = n) : holdsB q (lcmL x y) = true ↔ holdsB q x = true ∨ holdsB q y = true := by
  rw [holds_iff hq (lenLcm hx hy), holds_iff hq hx, holds_iff hq hy]
  constructor
  · rintro ⟨j, hj, h1, h2⟩
    unfold lcmL at h2
    rw [gd_zw hx hy hj] at h2
    by_cases z : gd q j ≤ gd x j
    · exact .inl ⟨j, hj, h1, z⟩
    · exact .inr ⟨j, hj, h1, by omega⟩
  · rintro (⟨j, hj, h1, h2⟩ | ⟨j, hj, h1, h2⟩)
    · exact ⟨j, hj, h1, by unfold lcmL; rw [gd_zw hx hy hj]; omega⟩
    · exact ⟨j, hj, h1, by unfold lcmL; rw [gd_zw hx hy hj]; omega⟩
theorem all_pairs {q : List Int} {f : List Int → List Int → List Int} (hf : ∀ x ∈ A, ∀ y ∈ B, holdsB q (f x y) = true ↔ holdsB q x = true ∨ holdsB q y = true) : (∀ g ∈ pairL f A B, holdsB q g = true) ↔ (∀ g ∈ A, holdsB q g = true) ∨ ∀ g ∈ B, holdsB q g = true := by
  constructor
  · intro h
    by_cases z : ∀ g ∈ A, holdsB q g = true
    · exact .inl z
    · refine .inr fun y hy => ?_
      obtain ⟨x, hx, hx2⟩ : ∃ x ∈ A, ¬ holdsB q x = true := Classical.byContradiction fun w => z fun g hg => Classical.byContradiction fun v => w ⟨g, hg, v⟩
      exact ((hf x hx y hy).mp (h _ (mem_pairL.mpr ⟨x, hx, y, hy, rfl⟩))).resolve_left hx2
  · rintro (h | h) g hg
    · obtain ⟨x, hx, y, hy, rfl⟩ := mem_pairL.mp hg
      exact (hf x hx y hy).mpr (.inl (h x hx))
    · obtain ⟨x, hx, y, hy, rfl⟩ := mem_pairL.mp hg
      exact (hf x hx y hy).mpr (.inr (h y hy))
theorem comp_meet (hA : NNs n A) (hB : NNs n B) : compF n (minL (pairL lcmL A B)) = idleL (compF n A ++ compF n B) := by
  have CA := comp_compF hA
  have CB := comp_compF hB
  have hT := hA.lcm hB
  have hP : NNs n (compF n A ++ compF n B) := CA.nn.app CB.nn
  have hf : ∀ q : List Int, q.length = n → ∀ x ∈ A, ∀ y ∈ B, holdsB q (lcmL x y) = true ↔ holdsB q x = true ∨ holdsB q y = true := fun q hq x hx y hy => holds_lcm hq (hA x hx).1 (hB y hy).1
  refine compF_idle hT.min hP (fun p hp => (holds_min hT (hP p hp).1).mpr ((all_pairs (hf p (hP p hp).1)).mpr ?_)) fun q hq hall => ?_
  · exact (List.mem_append.mp hp).imp (CA.up p) (CB.up p)
  · rcases (all_pairs (hf q hq.1)).mp ((holds_min hT hq.1).mp hall) with h | h
    · obtain ⟨p, hp, z⟩ := CA.all q hq h
      exact ⟨p, List.mem_append_left _ hp, z⟩
    · obtain ⟨p, hp, z⟩ := CB.all q hq h
      exact ⟨p, List.mem_append_right _ hp, z⟩
end
/-! dimensions: how few variables meet every generator -/
def Unit1 (n : Nat) (q : List Int) : Prop := q.length = n ∧ ∀ j < n, gd q j = 0 ∨ gd q j = 1
theorem Unit1.nn {n : Nat} {q : List Int} (h : Unit1 n q) : NN n q := nn_of_gd h.1 fun j hj => by rcases h.2 j hj with e | e <;> omega
/-- how many exponents are positive -/
def posL (p : List Int) : Nat := (p.filter fun x => decide (0 < x)).length
theorem pos_le {n : Nat} {p q : List Int} (hp : p.length = n) (hq : q.length = n) (h : ∀ j < n, 0 < gd p j → 0 < gd q j) : posL p ≤ posL q := by
  have key : ∀ (p q : List Int), p.length = q.length → (∀ j < p.length, 0 < gd p j → 0 < gd q j) → posL p ≤ posL q := by
    intro p
    induction p with
    | nil => intro q _ _; simp [posL]
    | cons x p ih =>
      intro q hl h
      cases q with
      | nil => simp at hl
      | cons y q =>
        have := ih q (by simpa using hl) fun j hj h0 => h (j + 1) (by simp; omega) h0
        have h0 := h 0 (by simp)
        simp only [gd, List.getD_cons_zero] at h0
        unfold posL at this ⊢
        rw [List.filter_cons, List.filter_cons]
        by_cases a : 0 < x
        · rw [if_pos (by simpa using a), if_pos (by simpa using h0 a)]
          simp only [List.length_cons]
          omega
        · rw [if_neg (by simpa using a)]
          split
          · simp only [List.length_cons]; omega
          · exact this
  exact key p q (hp.trans hq.symm) fun j hj => h j (by omega)
def coverB (G : List (List Int)) (q : List Int) : Prop := ∀ g ∈ G, holdsB q g = true
def unitL (p : List Int) : List Int := p.map fun x => if 0 < x then 1 else 0
theorem unit_ok {n : Nat} {p : List Int} (hp : p.length = n) : Unit1 n (unitL p) ∧ (∀ j < n, 0 < gd (unitL p) j ↔ 0 < gd p j) := by
  have g : ∀ j < n, gd (unitL p) j = if 0 < gd p j then 1 else 0 := fun j hj => gd_map hp hj
  refine ⟨⟨by unfold unitL; rw [List.length_map]; exact hp, fun j hj => ?_⟩, fun j hj => ?_⟩
  · rw [g j hj]; split <;> simp
  · rw [g j hj]; split <;> simp_all
/-- the least number of variables of a component is that of a set that meets all generators -/
structure MinCov (n : Nat) (G : List (List Int)) (m : Nat) : Prop where
  ex : ∃ q, Unit1 n q ∧ coverB G q ∧ posL q = m
  le : ∀ q, Unit1 n q → coverB G q → m ≤ posL q
theorem MinCov.uniq {n : Nat} {G H : List (List Int)} {m k : Nat} (a : MinCov n G m) (b : MinCov n H k) (h : ∀ q, Unit1 n q → (coverB G q ↔ coverB H q)) : m = k := by
  obtain ⟨q, h1, h2, h3⟩ := a.ex
  obtain ⟨r, h4, h5, h6⟩ := b.ex
  have := b.le q h1 ((h q h1).mp h2)
  have := a.le r h4 ((h r h4).mpr h5)
  omega
theorem mincov_comp {n m : Nat} {G : List (List Int)} (hG : NNs n G) (h1 : ∃ p ∈ compF n G, posL p = m) (h2 : ∀ p ∈ compF n G, m ≤ posL p) : MinCov n G m := by
  have C := comp_compF hG
  constructor
  · obtain ⟨p, hp, e⟩ := h1
    have lp := (C.nn p hp).1
    obtain ⟨u1, u2⟩ := unit_ok lp
    refine ⟨unitL p, u1, fun g hg => ?_, ?_⟩
    · obtain ⟨j, hj, h3, h4⟩ := (holds_iff lp (hG g hg).1).mp (C.up p hp g hg)
      have := (u2 j hj).mpr h3
      refine (holds_iff u1.1 (hG g hg).1).mpr ⟨j, hj, this, ?_⟩
      rcases u1.2 j hj with z | z <;> omega
    · have a := pos_le u1.1 lp fun j hj => (u2 j hj).mp
      have b := pos_le lp u1.1 fun j hj => (u2 j hj).mpr
      omega
  · intro q hq hc
    obtain ⟨p, hp, h⟩ := C.all q hq.nn hc
    exact Nat.le_trans (h2 p hp) (pos_le (C.nn p hp).1 hq.1 fun j hj h0 => ((around_iff hq.1 (C.nn p hp).1).mp h j hj h0).1)
end UC
end

section
set_option linter.all false
set_option maxRecDepth 100000
set_option maxHeartbeats 1000000
namespace UC
open PySem L2 DL RD
/-! supports -/
theorem mem_supp {n : Nat} {p : List Int} (hp : p.length = n) {x : Int} : x ∈ suppL p ↔ ∃ j < n, 0 < gd p j ∧ x = (j : Int) := by
  unfold suppL
  rw [zipIdx_range, hp]
  simp only [List.mem_map, List.mem_filter, List.mem_range, decide_eq_true_eq]
  constructor
  · rintro ⟨z, ⟨⟨j, hj, rfl⟩, h⟩, rfl⟩
    exact ⟨j, hj, h, rfl⟩
  · rintro ⟨j, hj, h, rfl⟩
    exact ⟨_, ⟨⟨j, hj, rfl⟩, h⟩, rfl⟩
theorem supp_filter {n : Nat} {p : List Int} (hp : p.length = n) : suppL p = ((List.range n).filter fun j => decide (0 < gd p j)).map fun (j : Nat) => (j : Int) := by
  unfold suppL
  rw [zipIdx_range, hp, List.filter_map, List.map_map]
  rfl
theorem supp_eq {n : Nat} {p q : List Int} (hp : p.length = n) (hq : q.length = n) : suppL p = suppL q ↔ ∀ j < n, 0 < gd p j ↔ 0 < gd q j := by
  constructor
  · intro h j hj
    have a := mem_supp hp (x := (j : Int))
    have b := mem_supp hq (x := (j : Int))
    rw [h] at a
    constructor
    · intro h0
      obtain ⟨i, hi, h1, h2⟩ := b.mp (a.mpr ⟨j, hj, h0, rfl⟩)
      rw [show j = i by omega]
      exact h1
    · intro h0
      obtain ⟨i, hi, h1, h2⟩ := a.mp (b.mpr ⟨j, hj, h0, rfl⟩)
      rw [show j = i by omega]
      exact h1
  · intro h
    rw [supp_filter hp, supp_filter hq]
    congr 1
    refine List.filter_congr fun j hj => ?_
    rw [Bool.eq_iff_iff, decide_eq_true_eq, decide_eq_true_eq]
    exact h j (List.mem_range.mp hj)
theorem supp_rad {n : Nat} {p : List Int} (hp : p.length = n) : suppL (radL p) = suppL p := (supp_eq (len_rad hp) hp).mpr fun j hj => by
  rw [gd_rad hp hj]
  omega
/-- whether the second one's support lies in that of the first one -/
def subS (one other : List Int) : Bool := other.all fun k => decide (k ∈ one)
theorem sub_supp {n : Nat} {p q : List Int} (hp : p.length = n) (hq : q.length = n) : subS (suppL p) (suppL q) = true ↔ ∀ j < n, 0 < gd q j → 0 < gd p j := by
  unfold subS
  rw [List.all_eq_true]
  constructor
  · intro h j hj h0
    have := of_decide_eq_true (h (j : Int) ((mem_supp hq).mpr ⟨j, hj, h0, rfl⟩))
    obtain ⟨i, hi, h1, h2⟩ := (mem_supp hp).mp this
    rw [show j = i by omega]
    exact h1
  · intro h x hx
    obtain ⟨j, hj, h0, rfl⟩ := (mem_supp hq).mp hx
    exact decide_eq_true ((mem_supp hp).mpr ⟨j, hj, h j hj h0, rfl⟩)
theorem around_rad {n : Nat} {p q : List Int} (hp : NN n p) (hq : NN n q) : aroundB (radL p) (radL q) = true ↔ subS (suppL p) (suppL q) = true := by
  rw [around_iff (len_rad hp.1) (len_rad hq.1), sub_supp hp.1 hq.1]
  constructor
  · intro h j hj h0
    have := h j hj
    rw [gd_rad hp.1 hj, gd_rad hq.1 hj] at this
    omega
  · intro h j hj h0
    rw [gd_rad hp.1 hj, gd_rad hq.1 hj] at *
    have := h j hj (by omega)
    omega
theorem rad_eq_supp {n : Nat} {p q : List Int} (hp : NN n p) (hq : NN n q) : radL p = radL q ↔ suppL p = suppL q := by
  rw [supp_eq hp.1 hq.1]
  constructor
  · intro h j hj
    have := congrArg (fun z => gd z j) h
    simp only [gd_rad hp.1 hj, gd_rad hq.1 hj] at this
    omega
  · intro h
    refine (gd_ext (len_rad hp.1) (len_rad hq.1)).mpr fun j hj => ?_
    rw [gd_rad hp.1 hj, gd_rad hq.1 hj]
    have := h j hj
    have := hp.at hj
    have := hq.at hj
    omega
/-- those that contain no other one -/
def minP (L : List (List Int)) : List (List Int) := L.filter fun p => decide (L.filter (fun o => decide (o ≠ p) && subS p o) = [])
theorem mem_minP {L : List (List Int)} {p : List Int} : p ∈ minP L ↔ p ∈ L ∧ ∀ o ∈ L, subS p o = true → o = p := by
  unfold minP
  rw [List.mem_filter, decide_eq_true_eq, List.filter_eq_nil_iff]
  refine and_congr_right fun _ => forall_congr' fun o => forall_congr' fun _ => ?_
  simp only [Bool.and_eq_true, decide_eq_true_eq, not_and]
  constructor
  · intro h h2
    exact Classical.byContradiction fun hne => h hne h2
  · intro h hne h2
    exact hne (h h2)
def primesF (n : Nat) (G : List (List Int)) : List (List Int) := sortU ((compF n G).map suppL)
theorem mem_primesF {n : Nat} {G : List (List Int)} {s : List Int} : s ∈ primesF n G ↔ ∃ p ∈ compF n G, suppL p = s := by
  unfold primesF
  rw [mem_sortU, List.mem_map]
theorem primes_rad {n : Nat} {G : List (List Int)} (hG : NNs n G) : primesF n (minL (radS G)) = minP (primesF n G) := by
  have C := comp_compF hG
  refine ris_eq (ris_sortU _) ((ris_sortU _).sublist List.filter_sublist) fun s => ?_
  rw [mem_primesF, mem_minP, comp_rad hG]
  constructor
  · rintro ⟨x, hx, rfl⟩
    obtain ⟨hx1, hx2⟩ := mem_idleL.mp hx
    obtain ⟨p, hp, rfl⟩ := List.mem_map.mp hx1
    have np := C.nn p hp
    rw [supp_rad np.1]
    refine ⟨mem_primesF.mpr ⟨p, hp, rfl⟩, fun o ho h => ?_⟩
    obtain ⟨q, hq, rfl⟩ := mem_primesF.mp ho
    have nq := C.nn q hq
    exact ((rad_eq_supp np nq).mp (hx2 (radL q) (List.mem_map.mpr ⟨q, hq, rfl⟩) ((around_rad np nq).mpr h))).symm
  · rintro ⟨hs, hall⟩
    obtain ⟨p, hp, rfl⟩ := mem_primesF.mp hs
    have np := C.nn p hp
    refine ⟨radL p, mem_idleL.mpr ⟨List.mem_map.mpr ⟨p, hp, rfl⟩, fun y hy h => ?_⟩, supp_rad np.1⟩
    obtain ⟨q, hq, rfl⟩ := List.mem_map.mp hy
    have nq := C.nn q hq
    exact (rad_eq_supp np nq).mpr (hall _ (mem_primesF.mpr ⟨q, hq, rfl⟩) ((around_rad np nq).mp h)).symm
theorem minP_minP (L : List (List Int)) : minP (minP L) = minP L := by
  have : ∀ p ∈ minP L, decide ((minP L).filter (fun o => decide (o ≠ p) && subS p o) = []) = true := fun p hp => by
    rw [decide_eq_true_eq, List.filter_eq_nil_iff]
    intro o ho hh
    simp only [Bool.and_eq_true, decide_eq_true_eq] at hh
    exact hh.1 ((mem_minP.mp hp).2 o (mem_minP.mp ho).1 hh.2)
  conv => lhs; unfold minP
  exact List.filter_eq_self.mpr this
/-! primes by colons -/
def eL (n k : Nat) : List Int := powL n k 1
theorem gd_eL {n k j : Nat} (hj : j < n) : gd (eL n k) j = if j = k then 1 else 0 := gd_powL hj
theorem sum_split {n : Nat} {a : List Int} (ha : NN n a) {k : Nat} (hk : k < n) : gd a k ≤ a.sum ∧ (a.sum = gd a k → ∀ j < n, j ≠ k → gd a j = 0) := by
  have key : ∀ (a : List Int), (∀ x ∈ a, 0 ≤ x) → 0 ≤ a.sum ∧ ∀ k < a.length, gd a k ≤ a.sum ∧ (a.sum = gd a k → ∀ j < a.length, j ≠ k → gd a j = 0) := by
    intro a
    induction a with
    | nil => intro _; exact ⟨by decide, fun k hk => absurd hk (by simp)⟩
    | cons x a ih =>
      intro h
      have hx := h x List.mem_cons_self
      obtain ⟨h0, h1⟩ := ih fun y hy => h y (List.mem_cons_of_mem _ hy)
      refine ⟨by simp only [List.sum_cons]; omega, fun k hk => ?_⟩
      cases k with
      | zero =>
        refine ⟨by simp only [gd, List.getD_cons_zero, List.sum_cons]; omega, fun e j hj hne => ?_⟩
        simp only [gd, List.getD_cons_zero, List.sum_cons] at e
        cases j with
        | zero => exact absurd rfl hne
        | succ j =>
          have hj' : j < a.length := by simpa using hj
          have := (h1 j hj').1
          have := h _ (List.mem_cons_of_mem _ (gd_mem hj'))
          show gd a j = 0
          omega
      | succ k =>
        have hk' : k < a.length := by simpa using hk
        obtain ⟨h2, h3⟩ := h1 k hk'
        refine ⟨by show gd a k ≤ _; simp only [List.sum_cons]; omega, fun e j hj hne => ?_⟩
        have e' : x + a.sum = gd a k := by rw [List.sum_cons] at e; exact e
        cases j with
        | zero => show x = 0; omega
        | succ j => exact h3 (by omega) j (by simpa using hj) (by omega)
  have := (key a ha.2).2 k (by rw [ha.1]; exact hk)
  rw [ha.1] at this
  exact this
theorem sum_e {n k : Nat} (hk : k < n) : (eL n k).sum = 1 := by
  have key : ∀ (m s : Nat) (f : Nat → Int), (∀ j, s ≤ j → j < s + m → f j = if j = k then 1 else 0) → ((List.range' s m).map f).sum = if s ≤ k ∧ k < s + m then 1 else 0 := by
    intro m
    induction m with
    | zero => intro s f _; simp
    | succ m ih =>
      intro s f h
      rw [List.range'_succ, List.map_cons, List.sum_cons, ih (s + 1) f fun j h1 h2 => h j (by omega) (by omega), h s (by omega) (by omega)]
      by_cases e : s = k
      · subst e; rw [if_pos rfl, if_neg (by omega), if_pos (by omega)]; rfl
      · rw [if_neg e]
        by_cases z : s + 1 ≤ k ∧ k < s + 1 + m
        · rw [if_pos z, if_pos (by omega)]; rfl
        · rw [if_neg z, if_neg (by omega)]; rfl
  unfold eL powL
  rw [List.range_eq_range']
  rw [key n 0 _ fun j _ _ => rfl, if_pos (by omega)]
theorem one_e {n : Nat} {a : List Int} (ha : NN n a) (h : a.sum = 1) : ∃ k < n, a = eL n k := by
  obtain ⟨k, hk, h0⟩ : ∃ k < n, 0 < gd a k := by
    refine Classical.byContradiction fun hno => ?_
    have key : ∀ (a : List Int), (∀ j < a.length, gd a j ≤ 0) → a.sum ≤ 0 := by
      intro a
      induction a with
      | nil => intro _; decide
      | cons x a ih =>
        intro h
        have h0 := h 0 (by simp)
        have := ih fun j hj => h (j + 1) (by simp; omega)
        simp only [gd, List.getD_cons_zero] at h0
        simp only [List.sum_cons]
        omega
    have := key a fun j hj => by
      refine Classical.byContradiction fun z => hno ⟨j, by rw [← ha.1]; exact hj, by omega⟩
    omega
  obtain ⟨h1, h2⟩ := sum_split ha hk
  refine ⟨k, hk, (gd_ext (b := eL n k) ha.1 len_powL).mpr fun j hj => ?_⟩
  rw [show gd (eL n k) j = _ from gd_eL hj]
  by_cases e : j = k
  · subst e; rw [if_pos rfl]; omega
  · rw [if_neg e]; exact h2 (by omega) j hj e
theorem supp_e {n k : Nat} (hk : k < n) : suppL (eL n k) = [(k : Int)] := by
  rw [supp_filter (p := eL n k) len_powL]
  have : (List.range n).filter (fun j => decide (0 < gd (eL n k) j)) = [k] := by
    have e : (List.range n).filter (fun j => decide (0 < gd (eL n k) j)) = (List.range n).filter (fun j => j == k) := List.filter_congr fun j hj => by
      rw [gd_eL (List.mem_range.mp hj)]
      by_cases e : j = k <;> simp [e]
    rw [e, List.filter_beq]
    have : (List.range n).count k = 1 := by
      have a := List.nodup_iff_count.mp (List.nodup_range (n := n)) k
      have b := List.count_pos_iff.mpr (List.mem_range.mpr hk)
      omega
    rw [this]
    rfl
  rw [this]
  rfl
/-- all least generators of the colon are single variables -/
def isPrimeB (G : List (List Int)) (b : List Int) : Bool := decide ((minL (cutS G b)).filter (fun a => decide (a.sum ≠ 1)) = [])
/-- the variables -/
def varsL (n : Nat) (G : List (List Int)) (b : List Int) : List Int := ((List.range n).filter fun k => decide (eL n k ∈ minL (cutS G b))).map fun (k : Nat) => (k : Int)
section
variable {n : Nat} {G : List (List Int)} {b : List Int}
theorem prime_iff : isPrimeB G b = true ↔ ∀ a ∈ minL (cutS G b), a.sum = 1 := by
  unfold isPrimeB
  rw [decide_eq_true_eq, List.filter_eq_nil_iff]
  exact forall_congr' fun a => forall_congr' fun _ => by simp
theorem vars_supp {p : List Int} (hp : p.length = n) (h : ∀ k < n, 0 < gd p k ↔ eL n k ∈ minL (cutS G b)) : varsL n G b = suppL p := by
  unfold varsL
  rw [supp_filter hp]
  congr 1
  refine List.filter_congr fun k hk => ?_
  rw [Bool.eq_iff_iff, decide_eq_true_eq, decide_eq_true_eq]
  exact (h k (List.mem_range.mp hk)).symm
theorem nn_e (n k : Nat) : NN n (eL n k) := nn_of_gd len_powL fun j hj => by
  rw [gd_eL hj]
  split <;> decide
theorem e_div {a : List Int} {k : Nat} (ha : NN n a) (hk : k < n) (h : 0 < gd a k) : divB (eL n k) a = true := (divB_iff (nn_e n k).1 ha.1).mpr fun j hj => by
  rw [gd_eL hj]
  split
  · rename_i e; subst e; omega
  · exact ha.at hj
/-- what lies below a variable is 1 or the variable -/
theorem below_e {a : List Int} {k : Nat} (ha : NN n a) (hk : k < n) (h : divB a (eL n k) = true) (h0 : ∃ j < n, 0 < gd a j) : a = eL n k := by
  obtain ⟨i, hi, hi0⟩ := h0
  refine (gd_ext ha.1 (nn_e n k).1).mpr fun j hj => ?_
  have h1 := fun j hj => (divB_iff ha.1 (nn_e n k).1).mp h j hj
  have a1 := h1 i hi
  rw [gd_eL hi] at a1
  have e : i = k := by
    refine Classical.byContradiction fun z => ?_
    rw [if_neg z] at a1
    omega
  subst e
  rw [if_pos rfl] at a1
  have a2 := h1 j hj
  rw [gd_eL hj] at a2 ⊢
  have := ha.at hj
  by_cases z : j = i
  · subst z; rw [if_pos rfl] at *; omega
  · rw [if_neg z] at *; omega
theorem box_nn (hb : b ∈ boxL (topsL n G)) : NN n b := nn_of_gd (box_at hb).1 fun j hj => ((box_at hb).2 j hj).1
theorem e_of_raised {k : Nat} (hG : NNs n G) (hb : NN n b) (hno : inL G b = false) (hk : k < n) (h : inL G (raiseL b k) = true) : eL n k ∈ minL (cutS G b) := by
  have hT : NNs n (cutS G b) := hG.map (keeps_cut hb)
  obtain ⟨g, hg, hd⟩ := inL_iff.mp h
  have hgr := (divB_iff (hG g hg).1 (len_raise hb.1 hk)).mp hd
  have nc : NN n (cutL g b) := nn_cut (hG g hg) hb
  have d1 : divB (cutL g b) (eL n k) = true := (divB_iff nc.1 (nn_e n k).1).mpr fun j hj => by
    have := hgr j hj
    rw [gd_raise hb.1 hk hj] at this
    rw [gd_eL hj]
    unfold cutL
    rw [gd_zw (hG g hg).1 hb.1 hj]
    split at this
    · rename_i e; subst e; rw [if_pos rfl]; omega
    · rw [if_neg (by assumption)]; omega
  obtain ⟨r, hr, hd2⟩ := (mins_minL hT.len).cov _ (List.mem_map.mpr ⟨g, hg, rfl⟩)
  have nr := hT.min r hr
  have e := below_e nr hk (divB_trans nr.1 nc.1 (nn_e n k).1 hd2 d1) (by
    obtain ⟨g', hg', rfl⟩ := List.mem_map.mp (min_sub r hr)
    refine Classical.byContradiction fun z => ?_
    rw [Bool.eq_false_iff] at hno
    refine hno (inL_iff.mpr ⟨g', hg', (divB_iff (hG g' hg').1 hb.1).mpr fun j hj => ?_⟩)
    refine Classical.byContradiction fun y => z ⟨j, hj, ?_⟩
    unfold cutL
    rw [gd_zw (hG g' hg').1 hb.1 hj]
    omega)
  rw [← e]
  exact hr
theorem raised_of_e {k : Nat} (hG : NNs n G) (hb : NN n b) (hk : k < n) (h : eL n k ∈ minL (cutS G b)) : inL G (raiseL b k) = true ∧ gd b k < gd (topsL n G) k := by
  obtain ⟨g, hg, he⟩ := List.mem_map.mp (min_sub _ h)
  have hgj : ∀ j < n, max (gd g j - gd b j) 0 = if j = k then 1 else 0 := fun j hj => by
    have := congrArg (fun z => gd z j) he
    simp only [gd_eL hj] at this
    rw [← this]
    exact (gd_zw (f := fun x y => max (x - y) 0) (hG g hg).1 hb.1 hj).symm
  have e1 := hgj k hk
  rw [if_pos rfl] at e1
  refine ⟨inL_iff.mpr ⟨g, hg, (divB_iff (hG g hg).1 (len_raise hb.1 hk)).mpr fun j hj => ?_⟩, ?_⟩
  · have := hgj j hj
    rw [gd_raise hb.1 hk hj]
    split at this
    · rename_i e; subst e; rw [if_pos rfl]; omega
    · rw [if_neg (by assumption)]; omega
  · have := (tops_ge (G := G) hk).2 g hg
    omega
/-- the primes are what colons by monomials of the box tell -/
theorem primes_colons (hG : NNs n G) : primesF n G = sortU (((boxL (topsL n G)).filter (isPrimeB G)).map (varsL n G)) := by
  have mC : ∀ p, p ∈ compF n G ↔ ∃ b ∈ boxL (topsL n G), isCorner n G b ∧ p = partL n (topsL n G) b := fun p => by
    rw [← corn_eq hG, mem_sortU]
    exact mem_cornF
  refine sortU_eq (ris_sortU _) fun s => ?_
  rw [mem_sortU, List.mem_map, List.mem_map]
  constructor
  · rintro ⟨p, hp, rfl⟩
    obtain ⟨b, hb, hc, rfl⟩ := (mC p).mp hp
    obtain ⟨lb, hbb⟩ := box_at hb
    have nb := box_nn hb
    have hT : NNs n (cutS G b) := hG.map (keeps_cut nb)
    have M := mins_minL hT.len
    refine ⟨b, List.mem_filter.mpr ⟨hb, prime_iff.mpr fun r hr => ?_⟩, vars_supp len_part fun k hk => ?_⟩
    · obtain ⟨g, hg, rfl⟩ := List.mem_map.mp (min_sub r hr)
      obtain ⟨k, hk, h0⟩ : ∃ k < n, 0 < gd (cutL g b) k := by
        refine Classical.byContradiction fun z => ?_
        have := hc.1
        rw [Bool.eq_false_iff] at this
        refine this (inL_iff.mpr ⟨g, hg, (divB_iff (hG g hg).1 lb).mpr fun j hj => ?_⟩)
        refine Classical.byContradiction fun y => z ⟨j, hj, ?_⟩
        unfold cutL
        rw [gd_zw (hG g hg).1 lb hj]
        omega
      have h1 : gd b k < gd (topsL n G) k := by
        have := (tops_ge (G := G) hk).2 g hg
        unfold cutL at h0
        rw [gd_zw (hG g hg).1 lb hk] at h0
        omega
      have he := e_of_raised hG nb hc.1 hk (hc.2 k hk h1)
      have := M.anti _ he _ hr (e_div (hT.min _ hr) hk h0)
      rw [← this]
      exact sum_e hk
    · rw [gd_part hk]
      constructor
      · intro h
        split at h
        · exact e_of_raised hG nb hc.1 hk (hc.2 k hk (by assumption))
        · omega
      · intro h
        rw [if_pos (raised_of_e hG nb hk h).2]
        have := (hbb k hk).1
        omega
  · rintro ⟨b, hb, rfl⟩
    obtain ⟨hb, hpr⟩ := List.mem_filter.mp hb
    obtain ⟨lb, hbb⟩ := box_at hb
    have nb := box_nn hb
    have hT : NNs n (cutS G b) := hG.map (keeps_cut nb)
    have hpr := prime_iff.mp hpr
    let c : List Int := (List.range n).map fun k => if eL n k ∈ minL (cutS G b) then gd b k else gd (topsL n G) k
    have lc : c.length = n := by show (List.map _ _).length = n; rw [List.length_map, List.length_range]
    have gc : ∀ k < n, gd c k = if eL n k ∈ minL (cutS G b) then gd b k else gd (topsL n G) k := fun k hk => by
      rw [← gd_eq (by rw [lc]; exact hk)]
      show (List.map _ _)[k] = _
      rw [List.getElem_map, List.getElem_range]
    have hcb : c ∈ boxL (topsL n G) := mem_boxL.mpr ⟨by rw [lc, len_tops], fun j hj => by
      rw [len_tops] at hj
      rw [gc j hj]
      have := hbb j hj
      split <;> omega⟩
    have nc := box_nn hcb
    have hci : inL G c = false := by
      rw [Bool.eq_false_iff]
      intro h
      obtain ⟨g, hg, hd⟩ := inL_iff.mp h
      obtain ⟨r, hr, hd2⟩ := (mins_minL hT.len).cov _ (List.mem_map.mpr ⟨g, hg, rfl⟩)
      obtain ⟨k, hk, e⟩ := one_e (hT.min r hr) (hpr r hr)
      subst e
      have h1 := (divB_iff (nn_e n k).1 (lenCut (hG g hg).1 lb)).mp hd2 k hk
      have h2 := (divB_iff (hG g hg).1 lc).mp hd k hk
      rw [gc k hk, if_pos hr] at h2
      rw [gd_eL hk, if_pos rfl] at h1
      unfold cutL at h1
      rw [gd_zw (hG g hg).1 lb hk] at h1
      omega
    have hcor : isCorner n G c := ⟨hci, fun k hk hlt => by
      rw [gc k hk] at hlt
      split at hlt
      · rename_i he
        refine in_up hG.len (len_raise lb hk) (len_raise lc hk) ((divB_iff (len_raise lb hk) (len_raise lc hk)).mpr fun j hj => ?_) (raised_of_e hG nb hk he).1
        rw [gd_raise lb hk hj, gd_raise lc hk hj, gc k hk, if_pos he, gc j hj]
        have := hbb j hj
        split
        · exact Int.le_refl _
        · split <;> omega
      · omega⟩
    refine ⟨_, (mC _).mpr ⟨c, hcb, hcor, rfl⟩, (vars_supp len_part fun k hk => ?_).symm⟩
    rw [gd_part hk, gc k hk]
    constructor
    · intro h
      refine Classical.byContradiction fun z => ?_
      rw [if_neg z, if_neg (by omega)] at h
      omega
    · intro h
      rw [if_pos h, if_pos (raised_of_e hG nb hk h).2]
      have := (hbb k hk).1
      omega
end
end UC
end

section
set_option linter.all false
set_option maxRecDepth 100000
set_option maxHeartbeats 1000000
namespace UC
open PySem L2 DL RD
/-! all subsets -/
def subsL (xs : List Int) : List (List Int) := xs.foldl (fun F x => F ++ F.map fun a => a ++ [x]) [[]]
theorem subs_snoc (xs : List Int) (x : Int) : subsL (xs ++ [x]) = subsL xs ++ (subsL xs).map fun a => a ++ [x] := by
  unfold subsL
  rw [List.foldl_append]
  rfl
theorem mem_subs {xs l : List Int} : l ∈ subsL xs ↔ l.Sublist xs := by
  have key : ∀ (ts pre : List Int) (F : List (List Int)), (∀ l, l ∈ F ↔ l.Sublist pre) → ∀ l, l ∈ ts.foldl (fun F x => F ++ F.map fun a => a ++ [x]) F ↔ l.Sublist (pre ++ ts) := by
    intro ts
    induction ts with
    | nil => intro pre F h l; rw [List.append_nil]; exact h l
    | cons t ts ih =>
      intro pre F h l
      rw [List.foldl_cons, show pre ++ t :: ts = (pre ++ [t]) ++ ts by simp]
      refine ih (pre ++ [t]) _ (fun m => ?_) l
      rw [List.mem_append, List.mem_map, List.sublist_append_iff]
      constructor
      · rintro (hm | ⟨a, ha, rfl⟩)
        · exact ⟨m, [], by simp, (h m).mp hm, List.nil_sublist _⟩
        · exact ⟨a, [t], rfl, (h a).mp ha, List.Sublist.refl _⟩
      · rintro ⟨l1, l2, rfl, h1, h2⟩
        cases l2 with
        | nil => exact .inl (by rw [List.append_nil]; exact (h l1).mpr h1)
        | cons y r =>
          have hl := h2.length_le
          simp only [List.length_cons, List.length_nil] at hl
          have hr : r = [] := List.eq_nil_of_length_eq_zero (by omega)
          subst hr
          have : y = t := by
            have := h2.subset (List.mem_singleton.mpr rfl)
            exact List.mem_singleton.mp this
          subst this
          exact .inr ⟨l1, (h l1).mpr h1, rfl⟩
  have := key xs [] [[]] (fun l => by simp [List.sublist_nil]) l
  rw [List.nil_append] at this
  exact this
theorem len_subs (xs : List Int) : (subsL xs).length = 2 ^ xs.length := by
  have key : ∀ (ts : List Int) (F : List (List Int)), (ts.foldl (fun F x => F ++ F.map fun a => a ++ [x]) F).length = F.length * 2 ^ ts.length := by
    intro ts
    induction ts with
    | nil => intro F; simp
    | cons t ts ih =>
      intro F
      rw [List.foldl_cons, ih, List.length_append, List.length_map, List.length_cons, Nat.pow_succ, Nat.mul_comm (2 ^ ts.length) 2, ← Nat.mul_assoc]
      congr 1
      omega
  have := key xs [[]]
  unfold subsL
  rw [this]
  simp
abbrev rangeI (n : Nat) : List Int := (List.range n).map fun (k : Nat) => (k : Int)
theorem mem_rangeI {n : Nat} {x : Int} : x ∈ rangeI n ↔ ∃ j < n, x = (j : Int) := by
  rw [List.mem_map]
  constructor
  · rintro ⟨j, hj, rfl⟩
    exact ⟨j, List.mem_range.mp hj, rfl⟩
  · rintro ⟨j, hj, rfl⟩
    exact ⟨j, List.mem_range.mpr hj, rfl⟩
theorem nodup_rangeI (n : Nat) : (rangeI n).Nodup := nodup_map_of List.nodup_range fun a _ b _ e => by
  have : (a : Int) = (b : Int) := e
  omega
/-! sets within which no generator lies -/
def freeB (G : List (List Int)) (lot : List Int) : Bool := decide (G.filter (fun a => decide ((suppL a).filter (fun k => !decide (k ∈ lot)) = [])) = [])
theorem free_iff {G : List (List Int)} {lot : List Int} : freeB G lot = true ↔ ∀ a ∈ G, ∃ k ∈ suppL a, k ∉ lot := by
  unfold freeB
  rw [decide_eq_true_eq, List.filter_eq_nil_iff]
  refine forall_congr' fun a => forall_congr' fun _ => ?_
  rw [decide_eq_true_eq, List.filter_eq_nil_iff]
  constructor
  · intro h
    refine Classical.byContradiction fun z => h fun k hk => ?_
    simp only [Bool.not_eq_true', decide_eq_false_iff_not, Classical.not_not]
    exact Classical.byContradiction fun y => z ⟨k, hk, y⟩
  · rintro ⟨k, hk, hn⟩ h
    have := h k hk
    simp only [Bool.not_eq_true', decide_eq_false_iff_not, Classical.not_not] at this
    exact hn this
def freeV (n : Nat) (G : List (List Int)) : Int := (((subsL (rangeI n)).filter (freeB G)).map fun l => (l.length : Int)).foldl max (-1)
section
variable {n : Nat} {G : List (List Int)}
/-- the complement's unit vector -/
def coL (n : Nat) (lot : List Int) : List Int := (List.range n).map fun (j : Nat) => if (j : Int) ∈ lot then 0 else 1
theorem gd_co {lot : List Int} {j : Nat} (hj : j < n) : gd (coL n lot) j = if (j : Int) ∈ lot then 0 else 1 := by
  rw [← gd_eq (by unfold coL; rw [List.length_map, List.length_range]; exact hj)]
  unfold coL
  rw [List.getElem_map, List.getElem_range]
theorem len_co {lot : List Int} : (coL n lot).length = n := by unfold coL; rw [List.length_map, List.length_range]
theorem pos_co {lot : List Int} (h : lot.Sublist (rangeI n)) : posL (coL n lot) + lot.length = n := by
  have nd := nodup_rangeI n
  have e1 : ((rangeI n).filter fun x => decide (x ∈ lot)).length = lot.length := by
    refine ((List.perm_ext_iff_of_nodup (nd.sublist List.filter_sublist) (nd.sublist h)).mpr fun x => ?_).length_eq
    rw [List.mem_filter, decide_eq_true_eq]
    exact ⟨fun z => z.2, fun z => ⟨h.subset z, z⟩⟩
  have e2 : posL (coL n lot) = ((List.range n).filter fun (j : Nat) => !decide ((j : Int) ∈ lot)).length := by
    unfold posL coL
    rw [List.filter_map, List.length_map]
    congr 1
    refine List.filter_congr fun j _ => ?_
    by_cases z : (j : Int) ∈ lot <;> simp [z]
  have e3 : ((rangeI n).filter fun x => decide (x ∈ lot)).length = ((List.range n).filter fun (j : Nat) => decide ((j : Int) ∈ lot)).length := by
    rw [List.filter_map, List.length_map]
    rfl
  have e4 := List.length_eq_countP_add_countP (fun (j : Nat) => decide ((j : Int) ∈ lot)) (l := List.range n)
  rw [List.countP_eq_length_filter, List.countP_eq_length_filter, List.length_range] at e4
  have e5 : ((List.range n).filter fun (j : Nat) => decide (¬ (decide ((j : Int) ∈ lot)) = true)).length = ((List.range n).filter fun (j : Nat) => !decide ((j : Int) ∈ lot)).length := by
    congr 1
    refine List.filter_congr fun j _ => ?_
    simp
  omega
theorem free_cover (hG : NNs n G) {lot : List Int} (h : lot.Sublist (rangeI n)) (hf : freeB G lot = true) : Unit1 n (coL n lot) ∧ coverB G (coL n lot) := by
  refine ⟨⟨len_co, fun j hj => ?_⟩, fun g hg => ?_⟩
  · rw [gd_co hj]; split <;> simp
  · obtain ⟨k, hk, hn⟩ := free_iff.mp hf g hg
    obtain ⟨j, hj, h0, rfl⟩ := (mem_supp (hG g hg).1).mp hk
    exact (holds_iff len_co (hG g hg).1).mpr ⟨j, hj, by rw [gd_co hj, if_neg hn]; decide, by rw [gd_co hj, if_neg hn]; omega⟩
theorem cover_free (hG : NNs n G) {q : List Int} (hq : Unit1 n q) (hc : coverB G q) : ∃ lot, lot.Sublist (rangeI n) ∧ freeB G lot = true ∧ posL q + lot.length = n := by
  have hs : ((rangeI n).filter fun x => decide (gd q x.toNat = 0)).Sublist (rangeI n) := List.filter_sublist
  have hm : ∀ j < n, (j : Int) ∈ (rangeI n).filter (fun x => decide (gd q x.toNat = 0)) ↔ gd q j = 0 := fun j hj => by
    rw [List.mem_filter, decide_eq_true_eq]
    exact ⟨fun z => z.2, fun z => ⟨mem_rangeI.mpr ⟨j, hj, rfl⟩, z⟩⟩
  refine ⟨_, hs, free_iff.mpr fun a ha => ?_, ?_⟩
  · obtain ⟨j, hj, h1, h2⟩ := (holds_iff hq.1 (hG a ha).1).mp (hc a ha)
    exact ⟨(j : Int), (mem_supp (hG a ha).1).mpr ⟨j, hj, by omega, rfl⟩, fun z => by rw [hm j hj] at z; omega⟩
  · have := pos_co hs
    have e : coL n ((rangeI n).filter fun x => decide (gd q x.toNat = 0)) = q := (gd_ext len_co hq.1).mpr fun j hj => by
      rw [gd_co hj]
      rcases hq.2 j hj with z | z
      · rw [if_pos ((hm j hj).mpr z), z]
      · rw [if_neg (fun y => by rw [hm j hj] at y; omega), z]
    rw [e] at this
    exact this
theorem free_none (hG : NNs n G) (h : compF n G = []) : freeV n G = -1 := by
  have : (subsL (rangeI n)).filter (freeB G) = [] := by
    rw [List.filter_eq_nil_iff]
    intro lot hl hf
    obtain ⟨u, c⟩ := free_cover hG (mem_subs.mp hl) hf
    obtain ⟨p, hp, _⟩ := (comp_compF hG).all _ u.nn c
    rw [h] at hp
    cases hp
  unfold freeV
  rw [this]
  rfl
theorem free_some {m : Nat} (hG : NNs n G) (hm : MinCov n G m) : freeV n G = (n : Int) - (m : Int) := by
  obtain ⟨q, hq, hc, e⟩ := hm.ex
  obtain ⟨lot, hl, hf, hp⟩ := cover_free hG hq hc
  have h1 : ((lot.length : Int)) ≤ freeV n G := (foldl_max_ge _ (-1)).2 _ (List.mem_map.mpr ⟨lot, List.mem_filter.mpr ⟨mem_subs.mpr hl, hf⟩, rfl⟩)
  have h2 : freeV n G ≤ (n : Int) - (m : Int) := foldl_max_le _ (-1) (by omega) fun x hx => by
    obtain ⟨l, hl, rfl⟩ := List.mem_map.mp hx
    obtain ⟨h1, h2⟩ := List.mem_filter.mp hl
    obtain ⟨u, c⟩ := free_cover hG (mem_subs.mp h1) h2
    have a := hm.le _ u c
    have b := pos_co (mem_subs.mp h1)
    omega
  omega
end
end UC
end

section
set_option linter.all false
set_option maxRecDepth 100000
set_option maxHeartbeats 1000000
open PySem L2 DL RD UC
local macro_rules | `(tactic| walk_at "E") => `(tactic| (try simp only [qAsg, qRet, qDrop, qIfS, qTest, qAndT, qOrT, qNotT, qAndV, qOrV, qNotV, qIf, qOp, qUn, qChain, onB, qv, qc, qgN, qgT, qgCons, qgNil, qCons, qNil, qTup, qLst, qPar, qPar3, qAug, qCB, qCall, qLen, qTupleC, qListC, qMax2, qMin2, qIntC, qSum, qAny, qAll, qIsi, tyName, qAdd, qSub, qMul, qFdiv, qMod, qPow, qI2, qCmpI, qEq, qNe, qLt, qLe, qGt, qGe, qNeg, qIx, qDGet, qDIn, qDPut, qSl, qPart, qNoPart, qNext, qFor, qiSeq, qiRng1, qiRng2, qiZip, qiEnum, qLc, seqSrc, lsrc, titems, litems, sitems, fz, newL, List.getElem?_cons_zero, List.getElem?_cons_succ, List.set_cons_zero, List.set_cons_succ, if_true, if_false, Bool.false_eq_true, ite_true, ite_false, up_same, reduceIte, decide_true, decide_false, true_and, and_true]))
local macro_rules | `(tactic| walk_at "D") => `(tactic| (try simp only [qAsg, qRet, qDrop, qIfS, qTest, qAndT, qOrT, qNotT, qAndV, qOrV, qNotV, qIf, qOp, qUn, qChain, onB, qv, qc, qgN, qgT, qgCons, qgNil, qCons, qNil, qTup, qLst, qPar, qPar3, qAug, qCB, qCall, qLen, qTupleC, qListC, qMax2, qMin2, qIntC, qSum, qAny, qAll, qIsi, tyName, qAdd, qSub, qMul, qFdiv, qMod, qPow, qI2, qCmpI, qEq, qNe, qLt, qLe, qGt, qGe, qNeg, qIx, qDGet, qDIn, qDPut, qSl, qPart, qNoPart, qNext, qFor, qiSeq, qiRng1, qiRng2, qiZip, qiEnum, qLc, seqSrc, lsrc, titems, litems, sitems, fz, newL, List.getElem?_cons_zero, List.getElem?_cons_succ, List.set_cons_zero, List.set_cons_succ, if_true, if_false, Bool.false_eq_true, ite_true, ite_false, up_same, reduceIte, decide_true, decide_false, true_and, and_true, eqv_int, eqv_bool, eqv_TI, eqv_LI, eqv_TT, eqv_LT, eqv_nilL, eqv_nilT, shaped_TI, shaped_LI, shaped_TT, shaped_LT, shaped_int, shaped_bool, shaped_nilL, shaped_nilT, dints_map2, dbools_map2, datas_map, mkT_map, mkT_0, mkT_1, mkT_2, mkT_3, List.length_map, List.length_cons, List.length_nil, List.length_append, List.map_cons, List.map_nil, wipeD, Bool.not_true, Bool.not_false, eq_self, not_true_eq_false, not_false_eq_true, kitB_tt, kitB_ll, kitB_dd, kitB_bb, kitB_ib, kitB_ii, kitB_ss, kitB_tl, kitB_lt, Function.comp, datas, Option.map_some, List.cons_append, List.nil_append, CPow, le_size4, Int.toNat_natCast, rngD0, I_eq, Bo_eq, BS.qSortB, in_IT, in_IL, in_TT, in_TL, qNotN, qIsN, qSortD, qListRg, qDispT, keyX_TI, qLc2, qMax1, qMin1, qAppend, qExtend, tints_TI, dv_TI, Option.bind_some, qRetN, atI_0, atI_1, atI_2, mk_appT, mk_snocI, idl, rep_I, Option.map_none, eqv_idl, shaped_idl, Bool.and_self, Bool.true_and, Bool.and_true]))
local macro_rules | `(tactic| walk_at "F") => `(tactic| (try simp only [qAsg, qRet, qDrop, qIfS, qTest, qAndT, qOrT, qNotT, qAndV, qOrV, qNotV, qIf, qOp, qUn, qChain, onB, qv, qc, qgN, qgT, qgCons, qgNil, qCons, qNil, qTup, qLst, qPar, qPar3, qAug, qCB, qCall, qLen, qTupleC, qListC, qMax2, qMin2, qIntC, qSum, qAny, qAll, qIsi, tyName, qAdd, qSub, qMul, qFdiv, qMod, qPow, qI2, qCmpI, qEq, qNe, qLt, qLe, qGt, qGe, qNeg, qIx, qDGet, qDIn, qDPut, qSl, qPart, qNoPart, qNext, qFor, qiRng1, qiRng2, qiZip, qiEnum, qLc, fz, newL, List.getElem?_cons_zero, List.getElem?_cons_succ, List.set_cons_zero, List.set_cons_succ, if_true, if_false, Bool.false_eq_true, ite_true, ite_false, up_same, reduceIte, decide_true, decide_false, true_and, and_true, eqv_int, eqv_bool, eqv_TI, eqv_LI, eqv_TT, eqv_LT, eqv_nilL, eqv_nilT, shaped_TI, shaped_LI, shaped_TT, shaped_LT, shaped_int, shaped_bool, shaped_nilL, shaped_nilT, dints_map2, dbools_map2, datas_map, mkT_map, mkT_0, mkT_1, mkT_2, mkT_3, List.length_map, List.length_cons, List.length_nil, List.length_append, List.map_cons, List.map_nil, wipeD, Bool.not_true, Bool.not_false, eq_self, not_true_eq_false, not_false_eq_true, kitB_tt, kitB_ll, kitB_dd, kitB_bb, kitB_ib, kitB_ii, kitB_ss, kitB_tl, kitB_lt, Function.comp, datas, Option.map_some, List.cons_append, List.nil_append, CPow, le_size4, Int.toNat_natCast, rngD0, I_eq, Bo_eq, BS.qSortB, in_IT, in_IL, in_TT, in_TL, qNotN, qIsN, qSortD, qListRg, qDispT, keyX_TI, qLc2, qMax1, qMin1, qAppend, qExtend, tints_TI, dv_TI, Option.bind_some, qRetN, atI_0, atI_1, atI_2, mk_appT, mk_snocI, idl, rep_I, Option.map_none, eqv_idl, shaped_idl, Bool.and_self, Bool.true_and, Bool.and_true]))
namespace UC
open PySem L2 DL RD
/-! primes, dimension, powers -/
def primesL (n : Nat) (G : List (List Int)) : List (List Int) := sortU ((compF n G).map suppL)
def sp_primes : SpD := fun xs st Q => ∃ (G : List (List Int)) (n w : Nat), xs = [.d (idl n G)] ∧ OkC n w G ∧ n ≤ 8 ∧ G.length ≤ 10 ∧ Q (.d (TT (primesL n G))) st
theorem len_primes : ∀ xs st Q, sp_primes xs st Q → xs.length = 1 := by rintro xs st Q ⟨G, n, w, rfl, _⟩; rfl
theorem comp_len_ok {n w : Nat} {G : List (List Int)} (ok : OkC n w G) : (compF n G).length < 4000 :=
  Nat.lt_of_le_of_lt (len_compF ok.2.2.2) (Nat.lt_of_le_of_lt (Nat.le_mul_of_pos_right _ (by omega)) ok.2.2.1)
theorem sem_primes : ∀ xs st Q, sp_primes xs st Q → rd_primes sp_components sp_support_of { nx := fun _ st' => Fg Q (.d .none) st', rt := Fg Q } (startD 2 xs) st := by
  rintro xs st Q ⟨G, n, w, rfl, ok, h8, h10, K⟩
  have e0 : startD 2 [.d (idl n G)] = [some (.d (idl n G)), none] := rfl
  rw [e0]
  unfold rd_primes
  have cC := comp_len_ok ok
  have M := mon_compF ok.2.2.2
  walk_at "D"
  refine ⟨G, n, w, rfl, ok, h8, h10, ?_⟩
  walk_at "D"
  refine ⟨by rw [sizeL]; omega, ?_⟩
  rw [List.map_map]
  refine comp_mapT _ (fun p => .d (TI (suppL p))) trivial _ _ ?_ ?_
  · intro p hp Q1 h
    walk_at "D"
    exact ⟨p, rfl, by rw [(M p hp).1]; omega, h⟩
  · have e1 : [] ++ (compF n G).map (fun p => DV.d (TI (suppL p))) = (((compF n G).map suppL).map TI).map .d := by
      rw [List.nil_append, List.map_map, List.map_map]
      rfl
    rw [e1]
    walk_at "D"
    exact ⟨cC, fg_ret K⟩
theorem supp_len (p : List Int) : (suppL p).length = posL p := by
  unfold suppL posL
  rw [List.length_map]
  conv => rhs; rw [← List.zipIdx_map_fst 0 p, List.filter_map, List.length_map]
  rfl
theorem foldl_min_spec : ∀ (l : List Int) (a : Int), (l.foldl min a = a ∨ l.foldl min a ∈ l) ∧ l.foldl min a ≤ a ∧ ∀ x ∈ l, l.foldl min a ≤ x
  | [], a => ⟨.inl rfl, Int.le_refl _, fun x hx => nomatch hx⟩
  | y :: l, a => by
    obtain ⟨h1, h2, h3⟩ := foldl_min_spec l (min a y)
    rw [List.foldl_cons]
    refine ⟨?_, by omega, fun x hx => ?_⟩
    · rcases h1 with h1 | h1
      · by_cases z : a ≤ y
        · exact .inl (by rw [h1]; omega)
        · exact .inr (List.mem_cons.mpr (.inl (by rw [h1]; omega)))
      · exact .inr (List.mem_cons_of_mem _ h1)
    · rcases List.mem_cons.mp hx with rfl | hx
      · omega
      · exact h3 x hx
def sp_dimension : SpD := fun xs st Q => ∃ (G : List (List Int)) (n w : Nat), xs = [.d (idl n G)] ∧ OkC n w G ∧ n ≤ 8 ∧ G.length ≤ 10 ∧ (compF n G = [] → Q (I (-1)) st) ∧ (∀ m, compF n G ≠ [] → MinCov n G m → Q (I ((n : Int) - (m : Int))) st)
theorem len_dimension : ∀ xs st Q, sp_dimension xs st Q → xs.length = 1 := by rintro xs st Q ⟨G, n, w, rfl, _⟩; rfl
theorem sem_dimension : ∀ xs st Q, sp_dimension xs st Q → rd_dimension sp_primes { nx := fun _ st' => Fg Q (.d .none) st', rt := Fg Q } (startD 3 xs) st := by
  rintro xs st Q ⟨G, n, w, rfl, ok, h8, h10, K1, K2⟩
  have e0 : startD 3 [.d (idl n G)] = [some (.d (idl n G)), none, none] := rfl
  rw [e0]
  unfold rd_dimension
  have cC := comp_len_ok ok
  refine seq fun N hN => ?_
  walk_at "D"
  refine ⟨G, n, w, rfl, ok, h8, h10, hN _ _ ?_⟩; clear hN N
  refine seq fun N hN => ?_
  walk_at "D"
  have hPl : (primesL n G).length < 4000 := Nat.lt_of_le_of_lt (sortU_len _) (by rw [List.length_map]; exact cC)
  have hmem : ∀ s, s ∈ primesL n G ↔ ∃ p ∈ compF n G, suppL p = s := fun s => by
    unfold primesL
    rw [mem_sortU, List.mem_map]
  refine ⟨by decide, ?_⟩
  by_cases e : compF n G = []
  · have e2 : primesL n G = [] := by unfold primesL; rw [e]; rfl
    simp only [e2, decide_true, if_true]
    walk_at "D"
    exact fg_ret (K1 e)
  · have e2 : primesL n G ≠ [] := fun z => by
      obtain ⟨p, hp⟩ := List.exists_mem_of_ne_nil _ e
      have := (hmem (suppL p)).mpr ⟨p, hp, rfl⟩
      rw [z] at this
      cases this
    simp only [e2, decide_false]
    walk_at "D"
    refine hN _ _ ?_; clear hN N
    walk_at "D"
    refine ⟨by rw [sizeL]; omega, ?_⟩
    rw [List.map_map]
    refine comp_mapT _ (fun p => I (p.length : Int)) trivial _ _ ?_ ?_
    · intro p hp Q1 h
      walk_at "D"
      exact h
    rw [ints_dv0]
    walk_at "D"
    cases hpl : primesL n G with
    | nil => exact absurd hpl e2
    | cons s0 r =>
      walk_at "D"
      obtain ⟨h1, h2, h3⟩ := foldl_min_spec (r.map fun p => (p.length : Int)) (s0.length : Int)
      generalize (r.map fun p => (p.length : Int)).foldl min (s0.length : Int) = mm at h1 h2 h3
      have hall : ∀ s ∈ primesL n G, mm ≤ (s.length : Int) := fun s hs => by
        rw [hpl] at hs
        rcases List.mem_cons.mp hs with rfl | hs
        · exact h2
        · exact h3 _ (List.mem_map.mpr ⟨s, hs, rfl⟩)
      obtain ⟨s1, hs1, hm⟩ : ∃ s ∈ primesL n G, mm = (s.length : Int) := by
        rcases h1 with h1 | h1
        · exact ⟨s0, by rw [hpl]; exact List.mem_cons_self, h1⟩
        · obtain ⟨s, hs, h⟩ := List.mem_map.mp h1
          exact ⟨s, by rw [hpl]; exact List.mem_cons_of_mem _ hs, h.symm⟩
      obtain ⟨p1, hp1, rfl⟩ := (hmem s1).mp hs1
      refine fg_ret ?_
      rw [hm]
      refine K2 (suppL p1).length e (mincov_comp (fun g hg => (ok.2.2.2 g hg).nn) ⟨p1, hp1, (supp_len p1).symm⟩ fun p hp => ?_)
      have := hall _ ((hmem (suppL p)).mpr ⟨p, hp, rfl⟩)
      rw [hm] at this
      rw [← supp_len p]
      omega
def powF (n : Nat) (A : List (List Int)) : Nat → List (List Int)
  | 0 => [List.replicate n 0]
  | k + 1 => minL (pairL mulL (powF n A k) A)
def sp_power_of : SpD := fun xs st Q => ∃ (A : List (List Int)) (n k : Nat), xs = [.d (idl n A), I k] ∧ k ≤ 1000 ∧ 1 ≤ n ∧ n ≤ 1000 ∧ A.length ≤ 1000 ∧ (∀ i < k, OkS n 60 (pairL mulL (powF n A i) A) ∧ (powF n A (i + 1)).length ≤ 60 ∧ (powF n A i).length ≤ 1000 ∧ ∀ a ∈ powF n A i, a.length ≤ 1000) ∧ Q (.d (idl n (powF n A k))) st
theorem len_power_of : ∀ xs st Q, sp_power_of xs st Q → xs.length = 2 := by rintro xs st Q ⟨A, n, k, rfl, _⟩; rfl
theorem sem_power_of : ∀ xs st Q, sp_power_of xs st Q → rd_power_of sp_product_of { nx := fun _ st' => Fg Q (.d .none) st', rt := Fg Q } (startD 4 xs) st := by
  rintro xs st Q ⟨A, n, k, rfl, hk, h1, h2, cA, hall, K⟩
  have e0 : startD 4 [.d (idl n A), I k] = [some (.d (idl n A)), some (I k), none, none] := rfl
  rw [e0]
  unfold rd_power_of
  refine seq fun N hN => ?_
  walk_at "D"
  refine ⟨by decide, by simp, by omega, by omega, by decide, by decide, by decide, hN _ _ ?_⟩; clear hN N
  refine seq fun N hN => ?_
  walk_at "D"
  refine ⟨by omega, by omega, ?_⟩
  refine for_byT _ (fun i ε s => s = st ∧ ∃ y3, ε = [some (.d (idl n A)), some (I k), some (.d (idl n (powF n A i))), y3]) ⟨rfl, _, rfl⟩ (fun _ _ _ _ => trivial) ?_ ?_
  · rintro i x ε s hx ⟨rfl, y3, rfl⟩ L hL
    obtain ⟨rfl, hi⟩ := range_some hx
    obtain ⟨o, c, d, l⟩ := hall x hi
    walk_at "D"
    exact ⟨_, A, n, rfl, o, c, d, cA, l, hL _ _ ⟨rfl, _, rfl⟩⟩
  rintro ε s ⟨rfl, y3, rfl⟩
  refine hN _ _ ?_
  rw [List.length_range]
  walk_at "D"
  exact fg_ret K
/-! the law's own -/
def sp_law_around : SpD := fun xs st Q => ∃ (p q : List Int) (n : Nat), xs = [.d (TI p), .d (TI q)] ∧ p.length = n ∧ q.length = n ∧ n ≤ 1000 ∧ Q (Bo (aroundB p q)) st
theorem len_law_around : ∀ xs st Q, sp_law_around xs st Q → xs.length = 2 := by rintro xs st Q ⟨p, q, n, rfl, _⟩; rfl
theorem sem_law_around : ∀ xs st Q, sp_law_around xs st Q → rd_law_around { nx := fun _ st' => Fg Q (.d .none) st', rt := Fg Q } (startD 3 xs) st := by
  rintro xs st Q ⟨p, q, n, rfl, hp, hq, hn, K⟩
  have e0 : startD 3 [.d (TI p), .d (TI q)] = [some (.d (TI p)), some (.d (TI q)), none] := rfl
  rw [e0]
  unfold rd_law_around
  walk_at "D"
  refine ⟨by omega, by omega, by rw [List.length_range, sizeL]; omega, ?_⟩
  refine comp_fmT _ (fun (k : Nat) => decide (0 < gd q k) && !(decide (0 < gd p k) && decide (gd p k ≤ gd q k))) (fun (k : Nat) => I (k : Int)) trivial _ _ ?_ ?_
  · intro k hk Q1 Q2 h
    rw [List.mem_range] at hk
    walk_at "D"
    simp only [atI_gd (show k < p.length by omega), atI_gd (show k < q.length by omega)]
    by_cases h1 : 0 < gd q k
    · simp only [h1, decide_true, Bool.true_and] at h ⊢
      walk_at "D"
      by_cases h2 : 0 < gd p k
      · simp only [h2, decide_true, Bool.true_and] at h ⊢
        walk_at "D"
        by_cases h3 : gd p k ≤ gd q k
        · simp only [h3, decide_true, Bool.not_true] at h ⊢
          exact h
        · simp only [h3, decide_false, Bool.not_false] at h ⊢
          exact h
      · simp only [h2, decide_false, Bool.false_and, Bool.not_false] at h ⊢
        walk_at "D"
        exact h
    · simp only [h1, decide_false, Bool.false_and] at h ⊢
      walk_at "D"
      exact h
  · rw [ints_dv0]
    walk_at "D"
    refine ⟨by decide, fg_ret ?_⟩
    have e : decide (((List.range q.length).filter fun (k : Nat) => decide (0 < gd q k) && !(decide (0 < gd p k) && decide (gd p k ≤ gd q k))).map (fun (k : Nat) => (k : Int)) = []) = aroundB p q := by
      rw [Bool.eq_iff_iff, around_iff hp hq, hq]
      simp only [decide_eq_true_eq, List.map_eq_nil_iff, List.filter_eq_nil_iff, List.mem_range, Bool.and_eq_true, Bool.not_eq_true', Bool.and_eq_false_iff, decide_eq_false_iff_not, not_and, not_or, Classical.not_not]
    rw [← e] at K
    exact K
theorem idle_law (S : List (List Int)) : idleL S = (sortU S).filter fun p => decide ((sortU S).filter (fun o => decide (o ≠ p) && aroundB p o) = []) := by
  unfold idleL
  refine List.filter_congr fun p hp => ?_
  rw [Bool.eq_iff_iff]
  simp only [Bool.not_eq_true', decide_eq_true_eq, List.filter_eq_nil_iff, List.any_eq_false, List.mem_map, forall_exists_index, and_imp, id_eq, Bool.and_eq_true, Bool.not_eq_true]
  constructor
  · intro h o ho hh
    have := h _ o ho rfl
    rw [hh.2] at this
    simp only [Bool.and_true, ne_eq, decide_not, Bool.not_eq_false', decide_eq_true_eq] at this
    exact hh.1 this.symm
  · rintro h b o ho rfl
    by_cases e : p = o
    · simp [e]
    · have := h o ho
      simp only [ne_eq, not_and] at this
      have := this (fun z => e z.symm)
      simp only [Bool.not_eq_true] at this
      rw [this]
      simp
def sp_law_least_parts : SpD := fun xs st Q => ∃ (x : DV) (S : List (List Int)) (n : Nat), xs = [x] ∧ sitems st x = some ((S.map TI).map .d) ∧ S.length < 4000 ∧ (∀ t ∈ S, t.length = n) ∧ n ≤ 1000 ∧ Q (.d (TT (idleL S))) st
theorem len_law_least_parts : ∀ xs st Q, sp_law_least_parts xs st Q → xs.length = 1 := by rintro xs st Q ⟨a, ts, n, rfl, _⟩; rfl
theorem sem_law_least_parts : ∀ xs st Q, sp_law_least_parts xs st Q → rd_law_least_parts sp_law_around { nx := fun _ st' => Fg Q (.d .none) st', rt := Fg Q } (startD 4 xs) st := by
  rintro xs st Q ⟨x, ts, n, rfl, hx, hts, hlen, hn, K⟩
  have e0 : startD 4 [x] = [some x, none, none, none] := rfl
  rw [e0]
  unfold rd_law_least_parts
  refine seq fun N hN => ?_
  walk_at "F"
  simp only [hx]
  walk_at "D"
  refine ⟨hts, hN _ _ ?_⟩; clear hN N
  have hl : (sortU ts).length < 4000 := Nat.lt_of_le_of_lt (sortU_len ts) hts
  have hq : ∀ s ∈ sortU ts, s.length = n := fun s hs => hlen s (mem_sortU.mp hs)
  walk_at "D"
  refine ⟨size_of (Nat.le_of_lt hl) (by omega), ?_⟩
  rw [List.map_map]
  refine comp_fmT _ (fun a => decide ((sortU ts).filter (fun b => decide (b ≠ a) && aroundB a b) = [])) (fun a => .d (TI a)) trivial _ _ ?_ ?_
  · intro a ha Q1 Q2 h
    walk_at "D"
    refine ⟨size_of (Nat.le_of_lt hl) (by omega), ?_⟩
    rw [List.map_map]
    refine comp_fmT _ (fun b => decide (b ≠ a) && aroundB a b) (fun b => .d (TI b)) trivial _ _ ?_ ?_
    · intro b hb Q3 Q4 h2
      walk_at "D"
      by_cases e : b = a
      · simp only [e, decide_true, Bool.not_true]
        simp only [e, ne_eq, not_true_eq_false, decide_false, Bool.false_and] at h2
        exact h2
      · simp only [e, decide_false, Bool.not_false, if_true]
        simp only [ne_eq, e, not_false_eq_true, decide_true, Bool.true_and] at h2
        refine ⟨a, b, n, rfl, hq a ha, hq b hb, hn, ?_⟩
        walk_at "D"
        exact h2
    · rw [tis_dv0]
      walk_at "D"
      exact ⟨by decide, h⟩
  · rw [tis_dv0]
    walk_at "D"
    rw [← idle_law]
    exact fg_ret K
def sp_law_colon : SpD := fun xs st Q => ∃ (P : List (List Int)) (b : List Int) (n : Nat), xs = [.d (TT P), .d (TI b)] ∧ P.length < 4000 ∧ (∀ p ∈ P, p.length = n) ∧ b.length = n ∧ n ≤ 1000 ∧ Q (.d (TT (idleL (colonParts P b)))) st
theorem len_law_colon : ∀ xs st Q, sp_law_colon xs st Q → xs.length = 2 := by rintro xs st Q ⟨a, ts, n, rfl, _⟩; rfl
theorem sem_law_colon : ∀ xs st Q, sp_law_colon xs st Q → rd_law_colon sp_law_in_part sp_law_least_parts { nx := fun _ st' => Fg Q (.d .none) st', rt := Fg Q } (startD 5 xs) st := by
  rintro xs st Q ⟨P, b, n, rfl, hP, lP, lb, hn, K⟩
  have e0 : startD 5 [.d (TT P), .d (TI b)] = [some (.d (TT P)), some (.d (TI b)), none, none, none] := rfl
  rw [e0]
  unfold rd_law_colon
  refine seq fun N hN => ?_
  walk_at "D"
  refine ⟨by decide, fun q hq => hN _ _ ?_⟩; clear hN N
  refine seq fun N hN => ?_
  walk_at "D"
  rw [List.map_map]
  refine for_byT _ (fun i ε s => (∃ y3, ε = [some (.d (TT P)), some (.d (TI b)), some (.r q), y3, none]) ∧ s q = some (.lst (((((P.take i).filter fun p => !holdsB p b).map fun p => lessL p b).map TI).map .d)) ∧ ∀ c, c ≠ q → s c = st c) ⟨⟨_, rfl⟩, up_same, fun c hc => up_ne hc⟩ (fun _ _ _ _ => trivial) ?_ ?_
  · rintro i p ε s hp ⟨⟨y3, rfl⟩, hs, fr⟩ L hL
    have lp := lP p (List.mem_of_getElem? hp)
    have hi : i < P.length := (List.getElem?_eq_some_iff.mp hp).1
    have hnx := take_filter_map (p := fun p => !holdsB p b) (f := fun p => lessL p b) hp
    have hlen : ((P.take i).filter fun p => !holdsB p b).length ≤ 4000 := Nat.le_trans (List.length_filter_le _ _) (by rw [List.length_take]; omega)
    walk_at "D"
    refine ⟨p, b, n, rfl, lp, lb, hn, ?_⟩
    walk_at "D"
    cases e : holdsB p b with
    | true =>
      rw [e] at hnx
      walk_at "D"
      rw [Bool.not_true, if_neg Bool.false_ne_true, List.append_nil] at hnx
      exact hL _ _ ⟨⟨_, rfl⟩, by rw [hnx]; exact hs, fr⟩
    | false =>
      rw [e] at hnx
      rw [Bool.not_false, if_pos rfl] at hnx
      walk_at "D"
      refine ⟨⟨_, hs⟩, by omega, by omega, by rw [List.length_range, sizeL]; omega, ?_⟩
      refine comp_mapT _ (fun (j : Nat) => I (if 0 < gd p j then gd p j - gd b j else 0)) trivial _ _ ?_ ?_
      · intro j hj Q1 h
        rw [List.mem_range] at hj
        walk_at "D"
        simp only [atI_gd (show j < p.length by omega), atI_gd (show j < b.length by omega)]
        by_cases h0 : 0 < gd p j
        · simp only [h0, decide_true, if_true] at h ⊢
          exact h
        · simp only [h0, decide_false, if_false] at h ⊢
          exact h
      · rw [ints_dv0, lb, range_zw (f := fun x y => if 0 < x then x - y else 0) lp lb]
        walk_at "D"
        refine ⟨_, hs, by simp only [List.length_map, sizeL]; omega, hL _ _ ⟨⟨_, rfl⟩, ?_, fun c hc => by rw [up_ne hc]; exact fr c hc⟩⟩
        rw [up_same, hnx]
        simp only [List.map_append, List.map_cons, List.map_nil]
        rfl
  rintro ε s ⟨⟨y3, rfl⟩, hs, fr⟩
  refine hN _ _ ?_
  rw [List.take_length] at hs
  walk_at "D"
  refine ⟨.r q, colonParts P b, n, rfl, by simp only [sitems, titems, litems, hs]; rfl, ?_, fun t ht => ?_, hn, fg_le (le_up hq fr) K⟩
  · unfold colonParts
    rw [List.length_map]
    exact Nat.lt_of_le_of_lt (List.length_filter_le _ _) hP
  · unfold colonParts at ht
    obtain ⟨p, hp, rfl⟩ := List.mem_map.mp ht
    exact len_less (lP p (List.mem_filter.mp hp).1) lb
end UC
end

section
set_option linter.all false
set_option maxRecDepth 100000
set_option maxHeartbeats 1000000
open PySem L2 DL RD UC
local macro_rules | `(tactic| walk_at "E") => `(tactic| (try simp only [qAsg, qRet, qDrop, qIfS, qTest, qAndT, qOrT, qNotT, qAndV, qOrV, qNotV, qIf, qOp, qUn, qChain, onB, qv, qc, qgN, qgT, qgCons, qgNil, qCons, qNil, qTup, qLst, qPar, qPar3, qAug, qCB, qCall, qLen, qTupleC, qListC, qMax2, qMin2, qIntC, qSum, qAny, qAll, qIsi, tyName, qAdd, qSub, qMul, qFdiv, qMod, qPow, qI2, qCmpI, qEq, qNe, qLt, qLe, qGt, qGe, qNeg, qIx, qDGet, qDIn, qDPut, qSl, qPart, qNoPart, qNext, qFor, qiSeq, qiRng1, qiRng2, qiZip, qiEnum, qLc, seqSrc, lsrc, titems, litems, sitems, fz, newL, List.getElem?_cons_zero, List.getElem?_cons_succ, List.set_cons_zero, List.set_cons_succ, if_true, if_false, Bool.false_eq_true, ite_true, ite_false, up_same, reduceIte, decide_true, decide_false, true_and, and_true]))
local macro_rules | `(tactic| walk_at "D") => `(tactic| (try simp only [qAsg, qRet, qDrop, qIfS, qTest, qAndT, qOrT, qNotT, qAndV, qOrV, qNotV, qIf, qOp, qUn, qChain, onB, qv, qc, qgN, qgT, qgCons, qgNil, qCons, qNil, qTup, qLst, qPar, qPar3, qAug, qCB, qCall, qLen, qTupleC, qListC, qMax2, qMin2, qIntC, qSum, qAny, qAll, qIsi, tyName, qAdd, qSub, qMul, qFdiv, qMod, qPow, qI2, qCmpI, qEq, qNe, qLt, qLe, qGt, qGe, qNeg, qIx, qDGet, qDIn, qDPut, qSl, qPart, qNoPart, qNext, qFor, qiSeq, qiRng1, qiRng2, qiZip, qiEnum, qLc, seqSrc, lsrc, titems, litems, sitems, fz, newL, List.getElem?_cons_zero, List.getElem?_cons_succ, List.set_cons_zero, List.set_cons_succ, if_true, if_false, Bool.false_eq_true, ite_true, ite_false, up_same, reduceIte, decide_true, decide_false, true_and, and_true, eqv_int, eqv_bool, eqv_TI, eqv_LI, eqv_TT, eqv_LT, eqv_nilL, eqv_nilT, shaped_TI, shaped_LI, shaped_TT, shaped_LT, shaped_int, shaped_bool, shaped_nilL, shaped_nilT, dints_map2, dbools_map2, datas_map, mkT_map, mkT_0, mkT_1, mkT_2, mkT_3, List.length_map, List.length_cons, List.length_nil, List.length_append, List.map_cons, List.map_nil, wipeD, Bool.not_true, Bool.not_false, eq_self, not_true_eq_false, not_false_eq_true, kitB_tt, kitB_ll, kitB_dd, kitB_bb, kitB_ib, kitB_ii, kitB_ss, kitB_tl, kitB_lt, Function.comp, datas, Option.map_some, List.cons_append, List.nil_append, CPow, le_size4, Int.toNat_natCast, rngD0, I_eq, Bo_eq, BS.qSortB, in_IT, in_IL, in_TT, in_TL, qNotN, qIsN, qSortD, qListRg, qDispT, keyX_TI, qLc2, qMax1, qMin1, qAppend, qExtend, tints_TI, dv_TI, Option.bind_some, qRetN, atI_0, atI_1, atI_2, mk_appT, mk_snocI, idl, rep_I, Option.map_none, eqv_idl, shaped_idl, Bool.and_self, Bool.true_and, Bool.and_true]))
local macro_rules | `(tactic| walk_at "F") => `(tactic| (try simp only [qAsg, qRet, qDrop, qIfS, qTest, qAndT, qOrT, qNotT, qAndV, qOrV, qNotV, qIf, qOp, qUn, qChain, onB, qv, qc, qgN, qgT, qgCons, qgNil, qCons, qNil, qTup, qLst, qPar, qPar3, qAug, qCB, qCall, qLen, qTupleC, qListC, qMax2, qMin2, qIntC, qSum, qAny, qAll, qIsi, tyName, qAdd, qSub, qMul, qFdiv, qMod, qPow, qI2, qCmpI, qEq, qNe, qLt, qLe, qGt, qGe, qNeg, qIx, qDGet, qDIn, qDPut, qSl, qPart, qNoPart, qNext, qFor, qiRng1, qiRng2, qiZip, qiEnum, qLc, fz, newL, List.getElem?_cons_zero, List.getElem?_cons_succ, List.set_cons_zero, List.set_cons_succ, if_true, if_false, Bool.false_eq_true, ite_true, ite_false, up_same, reduceIte, decide_true, decide_false, true_and, and_true, eqv_int, eqv_bool, eqv_TI, eqv_LI, eqv_TT, eqv_LT, eqv_nilL, eqv_nilT, shaped_TI, shaped_LI, shaped_TT, shaped_LT, shaped_int, shaped_bool, shaped_nilL, shaped_nilT, dints_map2, dbools_map2, datas_map, mkT_map, mkT_0, mkT_1, mkT_2, mkT_3, List.length_map, List.length_cons, List.length_nil, List.length_append, List.map_cons, List.map_nil, wipeD, Bool.not_true, Bool.not_false, eq_self, not_true_eq_false, not_false_eq_true, kitB_tt, kitB_ll, kitB_dd, kitB_bb, kitB_ib, kitB_ii, kitB_ss, kitB_tl, kitB_lt, Function.comp, datas, Option.map_some, List.cons_append, List.nil_append, CPow, le_size4, Int.toNat_natCast, rngD0, I_eq, Bo_eq, BS.qSortB, in_IT, in_IL, in_TT, in_TL, qNotN, qIsN, qSortD, qListRg, qDispT, keyX_TI, qLc2, qMax1, qMin1, qAppend, qExtend, tints_TI, dv_TI, Option.bind_some, qRetN, atI_0, atI_1, atI_2, mk_appT, mk_snocI, idl, rep_I, Option.map_none, eqv_idl, shaped_idl, Bool.and_self, Bool.true_and, Bool.and_true]))
namespace UC
open PySem L2 DL RD
/-! supports, subsets, minimal primes -/
def sp_law_support : SpD := fun xs st Q => ∃ (a : List Int), xs = [.d (TI a)] ∧ a.length ≤ 1000 ∧ Q (.d (TI (suppL a))) st
theorem len_law_support : ∀ xs st Q, sp_law_support xs st Q → xs.length = 1 := by rintro xs st Q ⟨a, rfl, _⟩; rfl
theorem sem_law_support : ∀ xs st Q, sp_law_support xs st Q → rd_law_support { nx := fun _ st' => Fg Q (.d .none) st', rt := Fg Q } (startD 2 xs) st := by
  rintro xs st Q ⟨a, rfl, hl, K⟩
  have e0 : startD 2 [.d (TI a)] = [some (.d (TI a)), none] := rfl
  rw [e0]
  unfold rd_law_support
  walk_at "D"
  refine ⟨by omega, by omega, by rw [List.length_range, sizeL]; omega, ?_⟩
  refine comp_fmT _ (fun (k : Nat) => decide (0 < gd a k)) (fun (k : Nat) => I (k : Int)) trivial _ _ ?_ ?_
  · intro k hk Q1 Q2 h
    rw [List.mem_range] at hk
    walk_at "D"
    simp only [atI_gd hk]
    exact h
  · rw [ints_dv0, ← supp_filter rfl]
    walk_at "D"
    exact fg_ret K
def sp_law_subsets : SpD := fun xs st Q => ∃ (x : DV) (vs : List Int), xs = [x] ∧ sitems st x = some ((vs.map .int).map .d) ∧ vs.length ≤ 14 ∧
  ∀ (y : DV) st', Le st st' → (∀ a, y = .r a → st a = none) → sitems st' y = some (((subsL vs).map TI).map .d) → Q y st'
theorem len_law_subsets : ∀ xs st Q, sp_law_subsets xs st Q → xs.length = 1 := by rintro xs st Q ⟨x, a, rfl, _⟩; rfl
theorem sem_law_subsets : ∀ xs st Q, sp_law_subsets xs st Q → rd_law_subsets { nx := fun _ st' => Fg Q (.d .none) st', rt := Fg Q } (startD 4 xs) st := by
  rintro xs st Q ⟨x, vs, rfl, hx, hl, K⟩
  have e0 : startD 4 [x] = [some x, none, none, none] := rfl
  rw [e0]
  unfold rd_law_subsets
  refine seq fun N hN => ?_
  walk_at "D"
  refine ⟨by decide, by decide, fun p hp => hN _ _ ?_⟩; clear hN N
  refine seq fun N hN => ?_
  have hx1 := sitems_le hx (le_up1 (m := .lst [.d (.tuple [])]) hp)
  obtain ⟨inv0, hsrc0, hinv0⟩ := src_of2 hx1
  walk_at "F"
  simp only [qiSeq, qv, List.getElem?_cons_zero, List.getElem?_cons_succ, hsrc0]
  rw [List.map_map]
  refine for_byT _ (fun i ε s => Le st s ∧ (∃ y2, ε = [some x, some (.r p), y2, none]) ∧ s p = some (.lst (((subsL (vs.take i)).map TI).map .d))) ⟨le_up1 hp, ⟨_, rfl⟩, up_same⟩ (fun _ _ s h => hinv0 s (sitems_le hx h.1)) ?_ ?_
  · rintro i v ε s hi ⟨le, ⟨y2, rfl⟩, hs⟩ L hL
    have hiv : i < vs.length := (List.getElem?_eq_some_iff.mp hi).1
    have hnx : subsL (vs.take (i + 1)) = subsL (vs.take i) ++ (subsL (vs.take i)).map fun a => a ++ [v] := by
      rw [List.take_succ, hi]
      exact subs_snoc _ _
    have hlen : (subsL (vs.take i)).length ≤ 16384 := by
      rw [len_subs, List.length_take]
      exact Nat.le_trans (Nat.pow_le_pow_right (by decide) (show min i vs.length ≤ 14 by omega)) (by decide)
    have hall : ∀ a ∈ subsL (vs.take i), a.length ≤ 14 := fun a ha => by
      have := (mem_subs.mp ha).length_le
      rw [List.length_take] at this
      omega
    generalize subsL (vs.take i) = F at hs hnx hlen hall
    walk_at "D"
    refine ⟨⟨_, hs⟩, ?_⟩
    simp only [hs]
    refine ⟨by simp only [List.length_map, sizeL]; omega, ?_⟩
    rw [List.map_map]
    refine comp_mapT _ (fun a => .d (TI (a ++ [v]))) (by rw [← List.map_map]; exact hs) _ _ ?_ ?_
    · intro a ha Q1 h
      have := hall a ha
      walk_at "D"
      exact ⟨by decide, by rw [sizeL]; omega, h⟩
    · have e2 : [] ++ F.map (fun a => DV.d (TI (a ++ [v]))) = ((F.map fun a => a ++ [v]).map TI).map .d := by
        rw [List.nil_append, List.map_map, List.map_map]
        rfl
      rw [e2]
      walk_at "D"
      refine ⟨_, _, hs, rfl, by simp only [List.length_map, sizeL]; omega, hL _ _ ⟨le.up hp, ⟨_, rfl⟩, ?_⟩⟩
      rw [up_same, hnx, List.map_append, List.map_append]
  · rintro ε s ⟨le, ⟨y2, rfl⟩, hs⟩
    refine hN _ _ ?_
    rw [List.take_length] at hs
    walk_at "D"
    exact fg_ret (K _ s le (fun a e => by cases e; exact hp) (by simp only [sitems, titems, litems, hs]))
def sp_law_holds : SpD := fun xs st Q => ∃ (a b : List Int), xs = [.d (TI a), .d (TI b)] ∧ b.length ≤ 1000 ∧ Q (Bo (subS a b)) st
theorem len_law_holds : ∀ xs st Q, sp_law_holds xs st Q → xs.length = 2 := by rintro xs st Q ⟨a, b, rfl, _⟩; rfl
theorem sem_law_holds : ∀ xs st Q, sp_law_holds xs st Q → rd_law_holds { nx := fun _ st' => Fg Q (.d .none) st', rt := Fg Q } (startD 3 xs) st := by
  rintro xs st Q ⟨a, b, rfl, hl, K⟩
  have e0 : startD 3 [.d (TI a), .d (TI b)] = [some (.d (TI a)), some (.d (TI b)), none] := rfl
  rw [e0]
  unfold rd_law_holds
  walk_at "D"
  refine ⟨by rw [sizeL]; omega, ?_⟩
  rw [List.map_map]
  refine comp_fmT _ (fun k => !decide (k ∈ a)) (fun k => I k) trivial _ _ ?_ ?_
  · intro k hk Q1 Q2 h
    walk_at "D"
    exact h
  · rw [show [] ++ (b.filter fun k => !decide (k ∈ a)).map (fun k => I k) = ((b.filter fun k => !decide (k ∈ a)).map .int).map .d by rw [List.nil_append, List.map_map]; rfl]
    walk_at "D"
    refine ⟨by decide, fg_ret ?_⟩
    have e : decide (b.filter (fun k => !decide (k ∈ a)) = []) = subS a b := by
      unfold subS
      rw [Bool.eq_iff_iff, decide_eq_true_eq, List.filter_eq_nil_iff, List.all_eq_true]
      simp
    rw [← e] at K
    exact K
def stepM (L : List (List Int)) (acc : List (List Int)) (p : List Int) : List (List Int) := if (L.any fun o => decide (o ≠ p) && subS p o) = true then acc else acc ++ [p]
theorem minP_fold (L : List (List Int)) : L.foldl (stepM L) [] = minP L := by
  have key : ∀ (M acc : List (List Int)), M.foldl (stepM L) acc = acc ++ M.filter fun p => decide (L.filter (fun o => decide (o ≠ p) && subS p o) = []) := by
    intro M
    induction M with
    | nil => intro acc; simp
    | cons p M ih =>
      intro acc
      have e : decide (L.filter (fun o => decide (o ≠ p) && subS p o) = []) = !(L.any fun o => decide (o ≠ p) && subS p o) := by
        rw [Bool.eq_iff_iff, decide_eq_true_eq, List.filter_eq_nil_iff, Bool.not_eq_true', List.any_eq_false]
      rw [List.foldl_cons, ih, List.filter_cons, e]
      unfold stepM
      cases (L.any fun o => decide (o ≠ p) && subS p o) with
      | true => simp
      | false => simp
  have := key L []
  rw [List.nil_append] at this
  exact this
def sp_minimal_primes : SpD := fun xs st Q => ∃ (G : List (List Int)) (n w : Nat), xs = [.d (idl n G)] ∧ OkC n w G ∧ n ≤ 8 ∧ G.length ≤ 10 ∧ Q (.d (TT (minP (primesF n G)))) st
theorem len_minimal_primes : ∀ xs st Q, sp_minimal_primes xs st Q → xs.length = 1 := by rintro xs st Q ⟨G, n, w, rfl, _⟩; rfl
theorem sem_minimal_primes : ∀ xs st Q, sp_minimal_primes xs st Q → rd_minimal_primes sp_primes { nx := fun _ st' => Fg Q (.d .none) st', rt := Fg Q } (startD 6 xs) st := by
  rintro xs st Q ⟨G, n, w, rfl, ok, h8, h10, K⟩
  have e0 : startD 6 [.d (idl n G)] = [some (.d (idl n G)), none, none, none, none, none] := rfl
  rw [e0]
  unfold rd_minimal_primes
  have cC := comp_len_ok ok
  have M := mon_compF ok.2.2.2
  have hPl : (primesF n G).length < 4000 := Nat.lt_of_le_of_lt (sortU_len _) (by rw [List.length_map]; exact cC)
  have hel : ∀ s ∈ primesF n G, s.length ≤ 1000 := fun s hs => by
    obtain ⟨p, hp, rfl⟩ := mem_primesF.mp hs
    rw [supp_len]
    refine Nat.le_trans (List.length_filter_le _ _) ?_
    rw [(M p hp).1]
    omega
  refine seq fun N hN => ?_
  walk_at "D"
  refine ⟨G, n, w, rfl, ok, h8, h10, hN _ _ ?_⟩; clear hN N
  rw [show primesL n G = primesF n G from rfl]
  generalize primesF n G = P at hPl hel K
  refine seq fun N hN => ?_
  walk_at "D"
  refine ⟨by decide, fun q hq => hN _ _ ?_⟩; clear hN N
  refine seq fun N hN => ?_
  walk_at "D"
  rw [List.map_map]
  refine for_byT _ (fun i ε s => (∃ y3, ε = [some (.d (idl n G)), some (.d (TT P)), some (.r q), y3, none, none]) ∧ s q = some (.lst ((((P.take i).foldl (stepM P) []).map TI).map .d)) ∧ ∀ b, b ≠ q → s b = st b) ⟨⟨_, rfl⟩, up_same, fun b hb => up_ne hb⟩ (fun _ _ _ _ => trivial) ?_ ?_
  · rintro i p ε s hp ⟨⟨y3, rfl⟩, hs, fr⟩ L hL
    have hi : i < P.length := (List.getElem?_eq_some_iff.mp hp).1
    have hnx : (P.take (i + 1)).foldl (stepM P) [] = stepM P ((P.take i).foldl (stepM P) []) p := by
      rw [List.take_succ, hp, List.foldl_append]
      rfl
    have hlen : ((P.take i).foldl (stepM P) []).length ≤ i := by
      have : ∀ (l acc : List (List Int)), (l.foldl (stepM P) acc).length ≤ acc.length + l.length := by
        intro l
        induction l with
        | nil => exact fun acc => Nat.le_refl _
        | cons m l ih =>
          intro acc
          refine Nat.le_trans (ih _) ?_
          unfold stepM
          split
          · simp <;> omega
          · simp <;> omega
      refine Nat.le_trans (this _ []) ?_
      simp only [List.length_nil, List.length_take]
      omega
    generalize (P.take i).foldl (stepM P) [] = A at hs hnx hlen
    walk_at "D"
    refine ⟨by rw [sizeL]; omega, ?_⟩
    rw [List.map_map]
    refine comp_mapT _ (fun o => Bo (decide (o ≠ p) && subS p o)) trivial _ _ ?_ ?_
    · intro o ho Q1 h
      walk_at "D"
      by_cases e : o = p
      · simp only [e, decide_true, ne_eq, not_true_eq_false, decide_false, Bool.false_and] at h ⊢
        walk_at "D"
        exact h
      · simp only [e, decide_false, ne_eq, not_false_eq_true, decide_true, Bool.true_and, Bool.not_false] at h ⊢
        walk_at "D"
        refine ⟨by have := hel o ho; rw [sizeL]; omega, ?_⟩
        rw [List.map_map]
        refine comp_mapT _ (fun k => Bo (decide (k ∈ p))) trivial _ _ ?_ ?_
        · intro k hk Q3 h3
          walk_at "D"
          exact h3
        · have e1 : [] ++ o.map (fun k => Bo (decide (k ∈ p))) = ((o.map fun k => decide (k ∈ p)).map PyData.bool).map DV.d := by
            rw [List.nil_append, List.map_map, List.map_map]
            rfl
          rw [e1]
          walk_at "D"
          rw [show (o.map fun k => decide (k ∈ p)).all id = subS p o by rw [List.all_map]; rfl]
          exact h
    · have e1 : [] ++ P.map (fun o => Bo (decide (o ≠ p) && subS p o)) = ((P.map fun o => decide (o ≠ p) && subS p o).map PyData.bool).map DV.d := by
        rw [List.nil_append, List.map_map, List.map_map]
        rfl
      rw [e1]
      walk_at "D"
      have e2 : (P.map fun o => decide (o ≠ p) && subS p o).any id = P.any fun o => decide (o ≠ p) && subS p o := by
        rw [List.any_map]
        rfl
      rw [e2]
      have hst : stepM P A p = if (P.any fun o => decide (o ≠ p) && subS p o) = true then A else A ++ [p] := rfl
      cases e : P.any fun o => decide (o ≠ p) && subS p o with
      | true =>
        rw [e, if_pos rfl] at hst
        rw [hst] at hnx
        walk_at "D"
        exact hL _ _ ⟨⟨_, rfl⟩, by rw [hnx]; exact hs, fr⟩
      | false =>
        rw [e, if_neg Bool.false_ne_true] at hst
        rw [hst] at hnx
        walk_at "D"
        refine ⟨⟨_, hs⟩, _, hs, by simp only [List.length_map, sizeL]; omega, hL _ _ ⟨⟨_, rfl⟩, ?_, fun b hb => by rw [up_ne hb]; exact fr b hb⟩⟩
        rw [up_same, hnx]
        simp
  · rintro ε s ⟨⟨y3, rfl⟩, hs, fr⟩
    refine hN _ _ ?_
    rw [List.take_length, minP_fold] at hs
    walk_at "D"
    simp only [hs]
    walk_at "D"
    exact fg_le (le_up hq fr) K
end UC
end

section
set_option linter.all false
set_option maxRecDepth 100000
set_option maxHeartbeats 1000000
namespace UC
open PySem L2 DL RD
/-! least common multiples of all sets of generators -/
def addA (K : List (List Int)) (a : List Int) : List (List Int) := if a ∈ K then K else K ++ [a]
theorem mem_addA {K : List (List Int)} {a x : List Int} : x ∈ addA K a ↔ x ∈ K ∨ x = a := by
  unfold addA
  split
  · rename_i h
    exact ⟨.inl, fun z => z.elim id fun e => by rw [e]; exact h⟩
  · rw [List.mem_append, List.mem_singleton]
theorem mem_addAs {x : List Int} : ∀ {ys K : List (List Int)}, x ∈ ys.foldl addA K ↔ x ∈ K ∨ x ∈ ys
  | [], K => by simp
  | y :: ys, K => by
    rw [List.foldl_cons, mem_addAs, mem_addA, List.mem_cons]
    constructor
    · rintro ((h | h) | h)
      · exact .inl h
      · exact .inr (.inl h)
      · exact .inr (.inr h)
    · rintro (h | h | h)
      · exact .inl (.inl h)
      · exact .inl (.inr h)
      · exact .inr h
theorem len_addAs : ∀ (ys K : List (List Int)), (ys.foldl addA K).length ≤ K.length + ys.length
  | [], K => Nat.le_refl _
  | y :: ys, K => by
    rw [List.foldl_cons, List.length_cons]
    refine Nat.le_trans (len_addAs ys (addA K y)) ?_
    have : (addA K y).length ≤ K.length + 1 := by
      unfold addA
      split
      · omega
      · rw [List.length_append]; exact Nat.le_refl _
    omega
def stepF (K : List (List Int)) (g : List Int) : List (List Int) := (K.map fun m => lcmL m g).foldl addA K
def mulF (n : Nat) (G : List (List Int)) : List (List Int) := G.foldl stepF [List.replicate n 0]
theorem mem_step {K : List (List Int)} {g x : List Int} : x ∈ stepF K g ↔ x ∈ K ∨ ∃ m ∈ K, x = lcmL m g := by
  unfold stepF
  rw [mem_addAs, List.mem_map]
  exact or_congr Iff.rfl ⟨fun ⟨m, h, e⟩ => ⟨m, h, e.symm⟩, fun ⟨m, h, e⟩ => ⟨m, h, e.symm⟩⟩
theorem len_step (K : List (List Int)) (g : List Int) : (stepF K g).length ≤ 2 * K.length := by
  have := len_addAs (K.map fun m => lcmL m g) K
  rw [List.length_map] at this
  show ((K.map fun m => lcmL m g).foldl addA K).length ≤ _
  omega
theorem len_mulF (n : Nat) (G : List (List Int)) : (mulF n G).length ≤ 2 ^ G.length := by
  have key : ∀ (G K : List (List Int)), (G.foldl stepF K).length ≤ K.length * 2 ^ G.length := by
    intro G
    induction G with
    | nil => intro K; simp
    | cons g G ih =>
      intro K
      rw [List.foldl_cons]
      refine Nat.le_trans (ih (stepF K g)) ?_
      rw [List.length_cons, Nat.pow_succ, Nat.mul_comm (2 ^ G.length) 2, ← Nat.mul_assoc]
      exact Nat.mul_le_mul_right _ (by rw [Nat.mul_comm]; exact len_step K g)
  have := key G [List.replicate n 0]
  simp only [List.length_cons, List.length_nil] at this
  unfold mulF
  omega
abbrev lcmF (n : Nat) (S : List (List Int)) : List Int := S.foldl lcmL (List.replicate n 0)
theorem mem_mulF {n : Nat} {G : List (List Int)} {x : List Int} : x ∈ mulF n G ↔ ∃ S, S.Sublist G ∧ x = lcmF n S := by
  have key : ∀ (ts pre K : List (List Int)), (∀ x, x ∈ K ↔ ∃ S, S.Sublist pre ∧ x = lcmF n S) → ∀ x, x ∈ ts.foldl stepF K ↔ ∃ S, S.Sublist (pre ++ ts) ∧ x = lcmF n S := by
    intro ts
    induction ts with
    | nil => intro pre K h x; rw [List.append_nil]; exact h x
    | cons t ts ih =>
      intro pre K h x
      rw [List.foldl_cons, show pre ++ t :: ts = (pre ++ [t]) ++ ts by simp]
      refine ih (pre ++ [t]) _ (fun y => ?_) x
      rw [mem_step]
      constructor
      · rintro (hy | ⟨m, hm, rfl⟩)
        · obtain ⟨S, hS, e⟩ := (h y).mp hy
          exact ⟨S, hS.trans (List.sublist_append_left _ _), e⟩
        · obtain ⟨S, hS, rfl⟩ := (h m).mp hm
          refine ⟨S ++ [t], hS.append (List.Sublist.refl _), ?_⟩
          show _ = (S ++ [t]).foldl lcmL _
          rw [List.foldl_append]
          rfl
      · rintro ⟨S, hS, rfl⟩
        obtain ⟨l1, l2, rfl, h1, h2⟩ := List.sublist_append_iff.mp hS
        cases l2 with
        | nil => exact .inl ((h _).mpr ⟨l1, h1, by rw [List.append_nil]⟩)
        | cons y r =>
          have hl := h2.length_le
          simp only [List.length_cons, List.length_nil] at hl
          have hr : r = [] := List.eq_nil_of_length_eq_zero (by omega)
          subst hr
          have e : y = t := List.mem_singleton.mp (h2.subset (List.mem_singleton.mpr rfl))
          subst e
          refine .inr ⟨lcmF n l1, (h _).mpr ⟨l1, h1, rfl⟩, ?_⟩
          show (l1 ++ [y]).foldl lcmL _ = _
          rw [List.foldl_append]
          rfl
  have := key G [] [List.replicate n 0] (fun y => by
    rw [List.mem_singleton]
    constructor
    · rintro rfl; exact ⟨[], List.Sublist.refl _, rfl⟩
    · rintro ⟨S, hS, rfl⟩
      rw [List.sublist_nil.mp hS]
      rfl) x
  rw [List.nil_append] at this
  exact this
section
variable {n : Nat} {G : List (List Int)}
theorem nn_zero : NN n (List.replicate n 0) := ⟨List.length_replicate .., fun x hx => by rw [(List.mem_replicate.mp hx).2]; decide⟩
theorem nn_lcmF : ∀ (S : List (List Int)) (z : List Int), NN n z → NNs n S → NN n (S.foldl lcmL z)
  | [], _, h, _ => h
  | s :: S, z, h, hS => nn_lcmF S (lcmL z s) (nn_lcm h (hS s List.mem_cons_self)) fun x hx => hS x (List.mem_cons_of_mem _ hx)
theorem nn_mulF (hG : NNs n G) : NNs n (mulF n G) := fun x hx => by
  obtain ⟨S, hS, rfl⟩ := mem_mulF.mp hx
  exact nn_lcmF S _ nn_zero fun y hy => hG y (hS.subset hy)
theorem gd_lcm {a b : List Int} {j : Nat} (ha : a.length = n) (hb : b.length = n) (hj : j < n) : gd (lcmL a b) j = max (gd a j) (gd b j) := gd_zw ha hb hj
/-- closed under least common multiples -/
theorem closed_mulF (hG : NNs n G) {a b : List Int} (ha : a ∈ mulF n G) (hb : b ∈ mulF n G) : lcmL a b ∈ mulF n G := by
  have key : ∀ (ts K : List (List Int)), NNs n ts → NNs n K → (∀ a ∈ K, ∀ b ∈ K, lcmL a b ∈ K) → ∀ a ∈ ts.foldl stepF K, ∀ b ∈ ts.foldl stepF K, lcmL a b ∈ ts.foldl stepF K := by
    intro ts
    induction ts with
    | nil => exact fun K _ _ h => h
    | cons t ts ih =>
      intro K hts hK h
      have ht := hts t List.mem_cons_self
      refine ih (stepF K t) (fun x hx => hts x (List.mem_cons_of_mem _ hx)) (fun x hx => ?_) fun a ha b hb => ?_
      · rcases mem_step.mp hx with hx | ⟨m, hm, rfl⟩
        · exact hK x hx
        · exact nn_lcm (hK m hm) ht
      · have both : ∀ {x y : List Int}, x ∈ K → y ∈ K → lcmL x y ∈ K := fun hx hy => h _ hx _ hy
        rcases mem_step.mp ha with ha | ⟨m, hm, rfl⟩ <;> rcases mem_step.mp hb with hb | ⟨k, hk, rfl⟩
        · exact mem_step.mpr (.inl (both ha hb))
        · refine mem_step.mpr (.inr ⟨lcmL a k, both ha hk, ?_⟩)
          have la := (hK a ha).1
          have lk := (hK k hk).1
          refine (gd_ext (lenLcm la (lenLcm lk ht.1)) (lenLcm (lenLcm la lk) ht.1)).mpr fun j hj => ?_
          rw [gd_lcm la (lenLcm lk ht.1) hj, gd_lcm lk ht.1 hj, gd_lcm (lenLcm la lk) ht.1 hj, gd_lcm la lk hj]
          omega
        · refine mem_step.mpr (.inr ⟨lcmL m b, both hm hb, ?_⟩)
          have lm := (hK m hm).1
          have lb := (hK b hb).1
          refine (gd_ext (lenLcm (lenLcm lm ht.1) lb) (lenLcm (lenLcm lm lb) ht.1)).mpr fun j hj => ?_
          rw [gd_lcm (lenLcm lm ht.1) lb hj, gd_lcm lm ht.1 hj, gd_lcm (lenLcm lm lb) ht.1 hj, gd_lcm lm lb hj]
          omega
        · refine mem_step.mpr (.inr ⟨lcmL m k, both hm hk, ?_⟩)
          have lm := (hK m hm).1
          have lk := (hK k hk).1
          refine (gd_ext (lenLcm (lenLcm lm ht.1) (lenLcm lk ht.1)) (lenLcm (lenLcm lm lk) ht.1)).mpr fun j hj => ?_
          rw [gd_lcm (lenLcm lm ht.1) (lenLcm lk ht.1) hj, gd_lcm lm ht.1 hj, gd_lcm lk ht.1 hj, gd_lcm (lenLcm lm lk) ht.1 hj, gd_lcm lm lk hj]
          omega
  refine key G [List.replicate n 0] hG (fun x hx => by rw [List.mem_singleton.mp hx]; exact nn_zero) (fun a ha b hb => ?_) a ha b hb
  rw [List.mem_singleton.mp ha, List.mem_singleton.mp hb, List.mem_singleton]
  refine (gd_ext (lenLcm nn_zero.1 nn_zero.1) nn_zero.1).mpr fun j hj => ?_
  rw [gd_lcm nn_zero.1 nn_zero.1 hj]
  omega
theorem zero_mulF : List.replicate n 0 ∈ mulF n G := mem_mulF.mpr ⟨[], List.nil_sublist _, rfl⟩
theorem gen_mulF (hG : NNs n G) {g : List Int} (hg : g ∈ G) : g ∈ mulF n G := by
  refine mem_mulF.mpr ⟨[g], List.singleton_sublist.mpr hg, ?_⟩
  have ng := hG g hg
  show g = lcmL (List.replicate n 0) g
  refine (gd_ext ng.1 (lenLcm nn_zero.1 ng.1)).mpr fun j hj => ?_
  rw [gd_lcm nn_zero.1 ng.1 hj, gd_rep hj]
  have := ng.at hj
  omega
theorem sub_mulF {H : List (List Int)} (h : H.Sublist G) {x : List Int} (hx : x ∈ mulF n H) : x ∈ mulF n G := by
  obtain ⟨S, hS, e⟩ := mem_mulF.mp hx
  exact mem_mulF.mpr ⟨S, hS.trans h, e⟩
/-- the same by sets of places -/
def lotL (n : Nat) (G : List (List Int)) (lot : List Int) : List Int := lot.foldl (fun b k => lcmL b (G.getD k.toNat [])) (List.replicate n 0)
theorem lots_eq : sortU ((subsL (rangeI G.length)).map (lotL n G)) = sortU (mulF n G) := by
  refine sortU_eq (ris_sortU _) fun x => ?_
  rw [mem_sortU, mem_mulF, List.mem_map]
  have e : ∀ lot, lotL n G lot = lcmF n (lot.map fun k => G.getD k.toNat []) := fun lot => by
    unfold lotL lcmF
    rw [List.foldl_map]
  have eG : (rangeI G.length).map (fun k => G.getD k.toNat []) = G := by
    rw [List.map_map]
    apply List.ext_getElem?
    intro i
    rw [List.getElem?_map]
    by_cases hi : i < G.length
    · rw [List.getElem?_range hi]
      simp [hi]
    · rw [List.getElem?_eq_none (by rw [List.length_range]; omega), List.getElem?_eq_none (by omega)]
      rfl
  constructor
  · rintro ⟨lot, hl, rfl⟩
    refine ⟨_, ?_, e lot⟩
    have := (mem_subs.mp hl).map fun k : Int => G.getD k.toNat []
    rw [eG] at this
    exact this
  · rintro ⟨S, hS, rfl⟩
    rw [← eG] at hS
    obtain ⟨lot, hl, rfl⟩ := List.sublist_map_iff.mp hS
    exact ⟨lot, mem_subs.mpr hl, e lot⟩
theorem zero_lex : ∀ {x : List Int}, (∀ y ∈ x, 0 ≤ y) → x = List.replicate x.length 0 ∨ lexL (List.replicate x.length 0) x = true
  | [], _ => .inl rfl
  | y :: x, h => by
    have h0 := h y List.mem_cons_self
    rw [List.length_cons, List.replicate_succ]
    by_cases z : y = 0
    · subst z
      rcases zero_lex fun w hw => h w (List.mem_cons_of_mem _ hw) with e | e
      · exact .inl (by rw [← e])
      · exact .inr (by simp [lexL, e])
    · exact .inr (by
        have : (0 : Int) < y := by omega
        simp [lexL, this])
/-- 1 is the first one -/
theorem head_mulF (hG : NNs n G) : ∃ r, sortU (mulF n G) = List.replicate n 0 :: r := by
  have hz : List.replicate n 0 ∈ sortU (mulF n G) := mem_sortU.mpr zero_mulF
  have ris := ris_sortU (mulF n G)
  have hn : NNs n (sortU (mulF n G)) := fun x hx => nn_mulF hG x (mem_sortU.mp hx)
  generalize sortU (mulF n G) = L at hz ris hn
  cases L with
  | nil => cases hz
  | cons y r =>
    rcases List.mem_cons.mp hz with e | hr
    · exact ⟨r, by rw [e]⟩
    · have h1 : lexL y (List.replicate n 0) = true := (List.pairwise_cons.mp ris).1 _ hr
      have hy := hn y List.mem_cons_self
      rcases zero_lex hy.2 with e | e
      · rw [hy.1] at e
        exact ⟨r, by rw [e]⟩
      · rw [hy.1] at e
        have := lexL_tr h1 e
        rw [lexL_irr] at this
        cases this
end
end UC
end

section
set_option linter.all false
set_option maxRecDepth 100000
namespace RD
open PySem L2 DL
/-- multiples_of(n, generators) slots: 0=n 1=generators 2=found 3=generator 4=multiple -/
def rd_multiples_of (sp_lcm_of : SpD) : TDs :=
  (qSeq (qAsg (qDispT (qOp (qMul false) (qTup (qCons (qc (.d (.int 0))) qNil)) (qv 0)) (qc (.d (.bool true)))) (qgN 2))
  (qSeq (qFor (qiSeq (qv 1)) (qgN 3) (qFor (qiSeq (qCB (qListDT false) (qCons (qv 2) qNil))) (qgN 4) (qDPut (qv 2) (qCall sp_lcm_of (qCons (qv 4) (qCons (qv 3) qNil))) (qc (.d (.bool true))))))
  (qRet (qCB qTupleC (qCons (qCB (qSortDT false) (qCons (qv 2) qNil)) qNil)))))
/-- common_multiples(ideal) slots: 0=ideal -/
def rd_common_multiples (sp_want_small : SpD) (sp_multiples_of : SpD) : TDs :=
  (qSeq (qDrop (qCall sp_want_small (qCons (qv 0) qNil)))
  (qRet (qCall sp_multiples_of (qCons (qOp qIx (qv 0) (qc (.d (.int 0)))) (qCons (qOp qIx (qv 0) (qc (.d (.int 1)))) qNil)))))
/-- _law_lots(n, generators) slots: 0=n 1=generators 2=found 3=lot 4=one 5=k -/
def rd_law_lots (sp_law_subsets : SpD) (sp_law_lcm : SpD) : TDs :=
  (qSeq (qAsg (qLst true qNil) (qgN 2))
  (qSeq (qFor (qiSeq (qCall sp_law_subsets (qCons (qListRg false (qCB qLen (qCons (qv 1) qNil))) qNil))) (qgN 3) (qSeq (qAsg (qOp (qMul false) (qTup (qCons (qc (.d (.int 0))) qNil)) (qv 0)) (qgN 4))
      (qSeq (qFor (qiSeq (qv 3)) (qgN 5) (qAsg (qCall sp_law_lcm (qCons (qv 4) (qCons (qOp qIx (qv 1) (qv 5)) qNil))) (qgN 4)))
      (qDrop (qAppend (qv 2) (qv 4))))))
  (qRet (qCB qTupleC (qCons (BS.qSortB false (qv 2)) qNil)))))
/-- law(script) slots: 0=script 1=turn 2=m 3=n 4=ideal 5=told 6=k 7=fewer 8=b -/
def rd_law (sp_common_multiples : SpD) (sp_law_begun : SpD) (sp_law_draw : SpD) (sp_law_of : SpD) (sp_law_ideal : SpD) (sp_law_lots : SpD) (sp_law_lcm : SpD) : TDs :=
  (qSeq (qIfS (qOrT (qTest (qOp qNe (qCall sp_common_multiples (qCons (qTup (qCons (qc (.d (.int 2))) (qCons (qTup qNil) qNil))) qNil)) (qTup (qCons (qTup (qCons (qc (.d (.int 0))) (qCons (qc (.d (.int 0))) qNil))) qNil)))) (qTest (qOp qNe (qCall sp_common_multiples (qCons (qTup (qCons (qc (.d (.int 3))) (qCons (qTup (qCons (qTup (qCons (qc (.d (.int 0))) (qCons (qc (.d (.int 0))) (qCons (qc (.d (.int 0))) qNil)))) qNil)) qNil))) qNil)) (qTup (qCons (qTup (qCons (qc (.d (.int 0))) (qCons (qc (.d (.int 0))) (qCons (qc (.d (.int 0))) qNil)))) qNil))))) (qRet (qc (.d (.bool false)))) qNext)
  (qSeq (qFor (qiRng1 (qCons (qCB qMax2 (qCons (qc (.d (.int 2))) (qCons (qCB qMin2 (qCons (qc (.d (.int 4))) (qCons (qCB qLen (qCons (qv 0) qNil)) qNil))) qNil))) qNil)) (qgN 1) (qSeq (qAsg (qCall sp_law_begun (qCons (qv 0) (qCons (qv 1) qNil))) (qgN 2))
      (qSeq (qAsg (qOp (qAdd false) (qc (.d (.int 1))) (qCall sp_law_draw (qCons (qv 2) (qCons (qc (.d (.int 6))) qNil)))) (qgN 3))
      (qSeq (qAsg (qCall sp_law_ideal (qCons (qv 2) (qCons (qv 3) (qCons (qc (.d (.int 7))) (qCons (qCall sp_law_of (qCons (qv 2) (qCons (qLst false (qCons (qc (.d (.int 1))) (qCons (qc (.d (.int 2))) (qCons (qc (.d (.int 3))) (qCons (qc (.d (.int 60))) qNil))))) qNil))) qNil))))) (qgN 4))
      (qSeq (qAsg (qCall sp_common_multiples (qCons (qv 4) qNil)) (qgN 5))
      (qSeq (qIfS (qOrT (qNotT (qTest (qIsi "tuple" (qv 5)))) (qOrT (qTest (qOp qNe (qv 5) (qCall sp_law_lots (qCons (qv 3) (qCons (qOp qIx (qv 4) (qc (.d (.int 1)))) qNil))))) (qTest (qOp qNe (qOp qIx (qv 5) (qc (.d (.int 0)))) (qOp (qMul false) (qTup (qCons (qc (.d (.int 0))) qNil)) (qv 3)))))) (qRet (qc (.d (.bool false)))) qNext)
      (qSeq (qFor (qiRng1 (qCons (qc (.d (.int 4))) qNil)) (qgN 6) (qIfS (qTest (qOp (qIn true) (qCall sp_law_lcm (qCons (qCall sp_law_of (qCons (qv 2) (qCons (qv 5) qNil))) (qCons (qCall sp_law_of (qCons (qv 2) (qCons (qv 5) qNil))) qNil))) (qv 5))) (qRet (qc (.d (.bool false)))) qNext))
      (qSeq (qIfS (qTest (qOp qNe (qOp qIx (qv 4) (qc (.d (.int 1)))) (qTup qNil))) (qSeq (qAsg (qCall sp_law_draw (qCons (qv 2) (qCons (qCB qLen (qCons (qOp qIx (qv 4) (qc (.d (.int 1)))) qNil)) qNil))) (qgN 6))
          (qSeq (qAsg (qCall sp_common_multiples (qCons (qTup (qCons (qv 3) (qCons (qOp (qAdd false) (qSl false (qOp qIx (qv 4) (qc (.d (.int 1)))) qNoPart (qPart (qv 6))) (qSl false (qOp qIx (qv 4) (qc (.d (.int 1)))) (qPart (qOp (qAdd false) (qv 6) (qc (.d (.int 1))))) qNoPart)) qNil))) qNil)) (qgN 7))
          (qIfS (qOrT (qTest (qOp qNe (qLc false (qiSeq (qv 7)) (qgN 8) (qTest (qOp (qIn true) (qv 8) (qv 5))) (qv 8) [8]) (qLst false qNil))) (qTest (qOp (qIn true) (qOp qIx (qOp qIx (qv 4) (qc (.d (.int 1)))) (qv 6)) (qv 5)))) (qRet (qc (.d (.bool false)))) qNext))) qNext)
      (qIfS (qTest (qOp qNe (qCall sp_common_multiples (qCons (qv 4) qNil)) (qv 5))) (qRet (qc (.d (.bool false)))) qNext)))))))))
  (qRet (qc (.d (.bool true))))))
end RD
end

section
set_option linter.all false
set_option maxRecDepth 100000
set_option maxHeartbeats 1000000
open PySem L2 DL RD UC
local macro_rules | `(tactic| walk_at "E") => `(tactic| (try simp only [qAsg, qRet, qDrop, qIfS, qTest, qAndT, qOrT, qNotT, qAndV, qOrV, qNotV, qIf, qOp, qUn, qChain, onB, qv, qc, qgN, qgT, qgCons, qgNil, qCons, qNil, qTup, qLst, qPar, qPar3, qAug, qCB, qCall, qLen, qTupleC, qListC, qMax2, qMin2, qIntC, qSum, qAny, qAll, qIsi, tyName, qAdd, qSub, qMul, qFdiv, qMod, qPow, qI2, qCmpI, qEq, qNe, qLt, qLe, qGt, qGe, qNeg, qIx, qDGet, qDIn, qDPut, qSl, qPart, qNoPart, qNext, qFor, qiSeq, qiRng1, qiRng2, qiZip, qiEnum, qLc, seqSrc, lsrc, titems, litems, sitems, fz, newL, List.getElem?_cons_zero, List.getElem?_cons_succ, List.set_cons_zero, List.set_cons_succ, if_true, if_false, Bool.false_eq_true, ite_true, ite_false, up_same, reduceIte, decide_true, decide_false, true_and, and_true]))
local macro_rules | `(tactic| walk_at "D") => `(tactic| (try simp only [qAsg, qRet, qDrop, qIfS, qTest, qAndT, qOrT, qNotT, qAndV, qOrV, qNotV, qIf, qOp, qUn, qChain, onB, qv, qc, qgN, qgT, qgCons, qgNil, qCons, qNil, qTup, qLst, qPar, qPar3, qAug, qCB, qCall, qLen, qTupleC, qListC, qMax2, qMin2, qIntC, qSum, qAny, qAll, qIsi, tyName, qAdd, qSub, qMul, qFdiv, qMod, qPow, qI2, qCmpI, qEq, qNe, qLt, qLe, qGt, qGe, qNeg, qIx, qDGet, qDIn, qDPut, qSl, qPart, qNoPart, qNext, qFor, qiSeq, qiRng1, qiRng2, qiZip, qiEnum, qLc, seqSrc, lsrc, titems, litems, sitems, fz, newL, List.getElem?_cons_zero, List.getElem?_cons_succ, List.set_cons_zero, List.set_cons_succ, if_true, if_false, Bool.false_eq_true, ite_true, ite_false, up_same, reduceIte, decide_true, decide_false, true_and, and_true, eqv_int, eqv_bool, eqv_TI, eqv_LI, eqv_TT, eqv_LT, eqv_nilL, eqv_nilT, shaped_TI, shaped_LI, shaped_TT, shaped_LT, shaped_int, shaped_bool, shaped_nilL, shaped_nilT, dints_map2, dbools_map2, datas_map, mkT_map, mkT_0, mkT_1, mkT_2, mkT_3, List.length_map, List.length_cons, List.length_nil, List.length_append, List.map_cons, List.map_nil, wipeD, Bool.not_true, Bool.not_false, eq_self, not_true_eq_false, not_false_eq_true, kitB_tt, kitB_ll, kitB_dd, kitB_bb, kitB_ib, kitB_ii, kitB_ss, kitB_tl, kitB_lt, Function.comp, datas, Option.map_some, List.cons_append, List.nil_append, CPow, le_size4, Int.toNat_natCast, rngD0, I_eq, Bo_eq, BS.qSortB, in_IT, in_IL, in_TT, in_TL, qNotN, qIsN, qSortD, qListRg, qDispT, keyX_TI, qLc2, qMax1, qMin1, qAppend, qExtend, tints_TI, dv_TI, Option.bind_some, qRetN, atI_0, atI_1, atI_2, mk_appT, mk_snocI, idl, rep_I, Option.map_none, eqv_idl, shaped_idl, Bool.and_self, Bool.true_and, Bool.and_true]))
local macro_rules | `(tactic| walk_at "F") => `(tactic| (try simp only [qAsg, qRet, qDrop, qIfS, qTest, qAndT, qOrT, qNotT, qAndV, qOrV, qNotV, qIf, qOp, qUn, qChain, onB, qv, qc, qgN, qgT, qgCons, qgNil, qCons, qNil, qTup, qLst, qPar, qPar3, qAug, qCB, qCall, qLen, qTupleC, qListC, qMax2, qMin2, qIntC, qSum, qAny, qAll, qIsi, tyName, qAdd, qSub, qMul, qFdiv, qMod, qPow, qI2, qCmpI, qEq, qNe, qLt, qLe, qGt, qGe, qNeg, qIx, qDGet, qDIn, qDPut, qSl, qPart, qNoPart, qNext, qFor, qiRng1, qiRng2, qiZip, qiEnum, qLc, fz, newL, List.getElem?_cons_zero, List.getElem?_cons_succ, List.set_cons_zero, List.set_cons_succ, if_true, if_false, Bool.false_eq_true, ite_true, ite_false, up_same, reduceIte, decide_true, decide_false, true_and, and_true, eqv_int, eqv_bool, eqv_TI, eqv_LI, eqv_TT, eqv_LT, eqv_nilL, eqv_nilT, shaped_TI, shaped_LI, shaped_TT, shaped_LT, shaped_int, shaped_bool, shaped_nilL, shaped_nilT, dints_map2, dbools_map2, datas_map, mkT_map, mkT_0, mkT_1, mkT_2, mkT_3, List.length_map, List.length_cons, List.length_nil, List.length_append, List.map_cons, List.map_nil, wipeD, Bool.not_true, Bool.not_false, eq_self, not_true_eq_false, not_false_eq_true, kitB_tt, kitB_ll, kitB_dd, kitB_bb, kitB_ib, kitB_ii, kitB_ss, kitB_tl, kitB_lt, Function.comp, datas, Option.map_some, List.cons_append, List.nil_append, CPow, le_size4, Int.toNat_natCast, rngD0, I_eq, Bo_eq, BS.qSortB, in_IT, in_IL, in_TT, in_TL, qNotN, qIsN, qSortD, qListRg, qDispT, keyX_TI, qLc2, qMax1, qMin1, qAppend, qExtend, tints_TI, dv_TI, Option.bind_some, qRetN, atI_0, atI_1, atI_2, mk_appT, mk_snocI, idl, rep_I, Option.map_none, eqv_idl, shaped_idl, Bool.and_self, Bool.true_and, Bool.and_true]))
namespace U
open PySem L2 DL RD UC
def comL (n : Nat) (G : List (List Int)) : List (List Int) := sortU (mulF n G)
def tabT (K : List (List Int)) : List (List Int × DV) := K.map fun a => (a, Bo true)
theorem keys_tabT (K : List (List Int)) : (tabT K).map (·.1) = K := by
  unfold tabT
  rw [List.map_map]
  exact List.map_id' _
theorem len_tabT (K : List (List Int)) : (tabT K).length = K.length := List.length_map ..
theorem put_tabT (K : List (List Int)) (a : List Int) : putT (tabT K) a (Bo true) = tabT (addA K a) := by
  unfold putT addA tabT
  rw [List.any_map]
  by_cases h : a ∈ K
  · rw [if_pos h, if_pos (List.any_eq_true.mpr ⟨a, h, decide_eq_true rfl⟩), List.map_map]
    refine List.map_congr_left fun b _ => ?_
    show (if b = a then (b, Bo true) else (b, Bo true)) = _
    split <;> rfl
  · rw [if_neg h, if_neg, List.map_append]
    · rfl
    · intro z
      obtain ⟨b, hb, e⟩ := List.any_eq_true.mp z
      exact h (of_decide_eq_true e ▸ hb)
def sp_multiples_of : SpD := fun xs st Q => ∃ (G : List (List Int)) (n : Nat), xs = [I n, .d (TT G)] ∧ n ≤ 1000 ∧ G.length ≤ 10 ∧ NNs n G ∧ Q (.d (TT (comL n G))) st
theorem len_multiples_of : ∀ xs st Q, sp_multiples_of xs st Q → xs.length = 2 := by rintro xs st Q ⟨G, n, rfl, _⟩; rfl
theorem sem_multiples_of : ∀ xs st Q, sp_multiples_of xs st Q → rd_multiples_of sp_lcm_of { nx := fun _ st' => Fg Q (.d .none) st', rt := Fg Q } (startD 5 xs) st := by
  rintro xs st Q ⟨G, n, rfl, hn, hl, hG, K⟩
  have e0 : startD 5 [I n, .d (TT G)] = [some (I n), some (.d (TT G)), none, none, none] := rfl
  rw [e0]
  unfold rd_multiples_of
  have len10 : ∀ i, (mulF n (G.take i)).length ≤ 1024 := fun i => Nat.le_trans (len_mulF n _) (Nat.le_trans (Nat.pow_le_pow_right (by decide) (show (G.take i).length ≤ 10 by rw [List.length_take]; omega)) (by decide))
  refine seq fun N hN => ?_
  walk_at "D"
  refine ⟨by decide, fun h => (nomatch h), by omega, by omega, by decide, ?_⟩
  walk_at "D"
  refine fun p hp => hN _ _ ?_; clear hN N
  refine seq fun N hN => ?_
  walk_at "D"
  rw [List.map_map]
  refine for_byT _ (fun i ε s => (∃ x3 x4, ε = [some (I n), some (.d (TT G)), some (.r p), x3, x4]) ∧ s p = some (.dT (tabD (tabT (mulF n (G.take i))))) ∧ ∀ b, b ≠ p → s b = st b) ⟨⟨_, _, rfl⟩, up_same, fun b hb => up_ne hb⟩ (fun _ _ _ _ => trivial) ?_ ?_
  · rintro i g ε s hi ⟨⟨x3, x4, rfl⟩, hs, fr⟩ L hL
    have hgm := List.mem_of_getElem? hi
    have hnx : mulF n (G.take (i + 1)) = stepF (mulF n (G.take i)) g := by
      rw [List.take_succ, hi]
      unfold mulF
      rw [List.foldl_append]
      rfl
    have hM : NNs n (mulF n (G.take i)) := nn_mulF fun x hx => hG x (List.mem_of_mem_take hx)
    have h1024 := len10 i
    generalize mulF n (G.take i) = M at hs hnx hM h1024
    walk_at "F"
    refine list_tab false _ hs ?_
    rw [keys_tabT]
    simp only [newL, datas_map]
    walk_at "D"
    rw [List.map_map]
    refine for_byT _ (fun j ε s' => (∃ x3 x4, ε = [some (I n), some (.d (TT G)), some (.r p), some (.d (TI g)), x4]) ∧ s' p = some (.dT (tabD (tabT (((M.take j).map fun m => lcmL m g).foldl addA M)))) ∧ ∀ b, b ≠ p → s' b = st b) ⟨⟨x3, x4, rfl⟩, hs, fr⟩ (fun _ _ _ _ => trivial) ?_ ?_
    · rintro j m ε s' hj ⟨⟨y3, y4, rfl⟩, hs', fr'⟩ L2 hL2
      have hmm := List.mem_of_getElem? hj
      have hnx2 : ((M.take (j + 1)).map fun m => lcmL m g).foldl addA M = addA (((M.take j).map fun m => lcmL m g).foldl addA M) (lcmL m g) := by
        rw [List.take_succ, hj, List.map_append, List.foldl_append]
        rfl
      have hlen : (((M.take j).map fun m => lcmL m g).foldl addA M).length ≤ 2048 := by
        refine Nat.le_trans (len_addAs _ _) ?_
        rw [List.length_map, List.length_take]
        omega
      generalize ((M.take j).map fun m => lcmL m g).foldl addA M = A at hs' hnx2 hlen
      walk_at "D"
      refine ⟨m, g, rfl, by rw [(hM m hmm).1]; exact hn, ?_⟩
      simp only [hs', dput_tab _ _ _ (show (tabT A).length < sizeLine by rw [len_tabT, sizeL]; omega)]
      refine hL2 _ _ ⟨⟨none, _, rfl⟩, ?_, fun b hb => by rw [up_ne hb]; exact fr' b hb⟩
      rw [up_same, hnx2]
      exact congrArg (fun z => some (MO.dT (tabD z))) (put_tabT A (lcmL m g))
    · rintro ε s' ⟨⟨y3, y4, rfl⟩, hs', fr'⟩
      rw [List.take_length] at hs'
      refine hL _ _ ⟨⟨_, _, rfl⟩, ?_, fr'⟩
      rw [hnx]
      exact hs'
  · rintro ε s ⟨⟨x3, x4, rfl⟩, hs, fr⟩
    refine hN _ _ ?_
    rw [List.take_length] at hs
    have hlen := len10 G.length
    rw [List.take_length] at hlen
    walk_at "F"
    refine sort_tab false _ hs (by rw [len_tabT]; omega) ?_
    rw [keys_tabT]
    simp only [newL, datas_map]
    walk_at "D"
    exact fg_le (le_up hp fr) K
def sp_common_multiples : SpD := fun xs st Q => ∃ (G : List (List Int)) (n : Nat), xs = [.d (idl n G)] ∧ n ≤ 8 ∧ G.length ≤ 10 ∧ NNs n G ∧ Q (.d (TT (comL n G))) st
theorem len_common_multiples : ∀ xs st Q, sp_common_multiples xs st Q → xs.length = 1 := by rintro xs st Q ⟨G, n, rfl, _⟩; rfl
theorem sem_common_multiples : ∀ xs st Q, sp_common_multiples xs st Q → rd_common_multiples sp_want_small sp_multiples_of { nx := fun _ st' => Fg Q (.d .none) st', rt := Fg Q } (startD 1 xs) st := by
  rintro xs st Q ⟨G, n, rfl, hn, hl, hG, K⟩
  have e0 : startD 1 [.d (idl n G)] = [some (.d (idl n G))] := rfl
  rw [e0]
  unfold rd_common_multiples
  walk_at "D"
  refine ⟨G, n, rfl, hn, hl, ?_⟩
  walk_at "D"
  exact ⟨G, n, rfl, by omega, hl, hG, fg_ret K⟩
def sp_law_lots : SpD := fun xs st Q => ∃ (G : List (List Int)) (n : Nat), xs = [I n, .d (TT G)] ∧ n ≤ 1000 ∧ G.length ≤ 10 ∧ NNs n G ∧ Q (.d (TT (comL n G))) st
theorem len_law_lots : ∀ xs st Q, sp_law_lots xs st Q → xs.length = 2 := by rintro xs st Q ⟨G, n, rfl, _⟩; rfl
theorem sem_law_lots : ∀ xs st Q, sp_law_lots xs st Q → rd_law_lots sp_law_subsets sp_law_lcm { nx := fun _ st' => Fg Q (.d .none) st', rt := Fg Q } (startD 6 xs) st := by
  rintro xs st Q ⟨G, n, rfl, hn, hl, hG, K⟩
  have e0 : startD 6 [I n, .d (TT G)] = [some (I n), some (.d (TT G)), none, none, none, none] := rfl
  rw [e0]
  unfold rd_law_lots
  refine seq fun N hN => ?_
  walk_at "D"
  refine ⟨by decide, fun q hq => hN _ _ ?_⟩; clear hN N
  refine seq fun N hN => ?_
  walk_at "D"
  refine ⟨by omega, by omega, ?_⟩
  have eR : (List.range G.length).map (fun (j : Nat) => DV.d (.int (j : Int))) = ((rangeI G.length).map PyData.int).map DV.d := by
    rw [List.map_map, List.map_map]; rfl
  rw [eR]
  simp only [datas_map]
  refine ⟨_, rangeI G.length, rfl, rfl, by simp only [List.length_map, List.length_range]; omega, fun x s1 le hr hx => ?_⟩
  obtain ⟨inv, hsrc, hinv⟩ := src_of2 hx
  simp only [seqSrc, titems, lsrc] at hsrc
  simp only [hsrc]
  rw [List.map_map]
  have hxq : ∀ s', (∀ b, b ≠ q → s' b = s1 b) → sitems s' x = some (((subsL (rangeI G.length)).map TI).map .d) := fun s' fr => by
    cases x with
    | d z => cases z <;> exact hx
    | t ys => exact hx
    | r a =>
      have e : a ≠ q := fun e => by
        have := hr a rfl
        rw [e, up_same] at this
        cases this
      simp only [sitems, titems, litems] at hx ⊢
      rw [fr a e]
      exact hx
  have hS : (subsL (rangeI G.length)).length ≤ 1024 := by
    rw [len_subs, List.length_map, List.length_range]
    exact Nat.le_trans (Nat.pow_le_pow_right (by decide) hl) (by decide)
  refine for_byT _ (fun i ε s => (∃ y3 y4 y5, ε = [some (I n), some (.d (TT G)), some (.r q), y3, y4, y5]) ∧ s q = some (.lst (((((subsL (rangeI G.length)).take i).map (lotL n G)).map TI).map .d)) ∧ ∀ b, b ≠ q → s b = s1 b) ⟨⟨_, _, _, rfl⟩, le _ _ up_same, fun b hb => rfl⟩ (fun i ε s h => hinv s (hxq s h.2.2)) ?_ ?_
  · rintro i lot ε s hi ⟨⟨y3, y4, y5, rfl⟩, hs, fr⟩ L hL
    have hip := (List.getElem?_eq_some_iff.mp hi).1
    have hlot := mem_subs.mp (List.mem_of_getElem? hi)
    have hnx : ((subsL (rangeI G.length)).take (i + 1)).map (lotL n G) = ((subsL (rangeI G.length)).take i).map (lotL n G) ++ [lotL n G lot] := by
      rw [List.take_succ, hi, List.map_append]
      rfl
    refine seq fun N hN => ?_
    walk_at "D"
    refine ⟨by decide, fun h => (nomatch h), by omega, by omega, by decide, ?_⟩
    refine hN _ _ ?_; clear hN N
    refine seq fun N hN => ?_
    walk_at "D"
    rw [List.map_map]
    refine for_byT _ (fun j ε s' => s' = s ∧ ∃ y5, ε = [some (I n), some (.d (TT G)), some (.r q), some (.d (TI lot)), some (.d (TI (lotL n G (lot.take j)))), y5]) ⟨rfl, _, rfl⟩ (fun _ _ _ _ => trivial) ?_ ?_
    · rintro j v ε s' hj ⟨rfl, z5, rfl⟩ L2 hL2
      obtain ⟨k, hk, rfl⟩ := mem_rangeI.mp (hlot.subset (List.mem_of_getElem? hj))
      have hnx2 : lotL n G (lot.take (j + 1)) = lcmL (lotL n G (lot.take j)) (G.getD k []) := by
        rw [List.take_succ, hj]
        unfold lotL
        rw [List.foldl_append]
        rfl
      have eg : G.getD k [] = G[k] := by rw [List.getD_eq_getElem?_getD, List.getElem?_eq_getElem hk]; rfl
      walk_at "D"
      rw [atI_map2 hk]
      have lo : ∀ lot : List Int, lot.Sublist (rangeI G.length) → (lotL n G lot).length = n := fun lot hl => by
        unfold lotL
        have : ∀ (l : List Int) (z : List Int), NN n z → (∀ v ∈ l, ∃ k < G.length, v = (k : Int)) → NN n (l.foldl (fun b k => lcmL b (G.getD k.toNat [])) z) := by
          intro l
          induction l with
          | nil => exact fun z h _ => h
          | cons v l ih =>
            intro z h hv
            obtain ⟨k, hk, rfl⟩ := hv v List.mem_cons_self
            refine ih _ (nn_lcm h ?_) fun u hu => hv u (List.mem_cons_of_mem _ hu)
            show NN n (G.getD k [])
            rw [List.getD_eq_getElem?_getD, List.getElem?_eq_getElem hk]
            exact hG _ (List.getElem_mem hk)
        exact (this lot _ nn_zero fun v hv => mem_rangeI.mp (hl.subset hv)).1
      refine ⟨_, G[k], n, rfl, lo _ ((List.take_sublist _ _).trans hlot), (hG _ (List.getElem_mem hk)).1, hn, ?_⟩
      rw [← eg, ← hnx2]
      exact hL2 _ _ ⟨rfl, _, rfl⟩
    · rintro ε s' ⟨rfl, z5, rfl⟩
      refine hN _ _ ?_
      rw [List.take_length]
      walk_at "D"
      refine ⟨⟨_, hs⟩, _, hs, by simp only [List.length_map, List.length_take, sizeL]; omega, hL _ _ ⟨⟨_, _, _, rfl⟩, ?_, fun b hb => by rw [up_ne hb]; exact fr b hb⟩⟩
      rw [up_same, hnx, List.map_append, List.map_append]
      rfl
  · rintro ε s ⟨⟨y3, y4, y5, rfl⟩, hs, fr⟩
    refine hN _ _ ?_
    rw [List.take_length] at hs
    walk_at "D"
    simp only [hs]
    walk_at "D"
    refine ⟨by omega, ?_⟩
    rw [lots_eq]
    refine fg_le (fun a m e => ?_) K
    have ha : a ≠ q := fun z => by rw [z, hq] at e; cases e
    rw [fr a ha]
    exact le _ _ (by rw [up_ne ha]; exact e)
theorem cutD_drop {α : Type} (xs : List α) (k : Nat) : cutD xs (some (k : Int)) none = xs.drop k := by
  unfold cutD
  rw [HT.sIx_nat, HT.sIx_none]
  by_cases h : k ≤ xs.length
  · rw [Nat.min_eq_left h, List.take_of_length_le (by rw [List.length_drop]; omega)]
  · rw [Nat.min_eq_right (by omega), List.drop_length, List.drop_eq_nil_of_le (by omega), List.take_nil]
theorem turns2 (l : Nat) : ∃ t : Nat, (if (if (l : Int) < 4 then (l : Int) else 4) > 2 then (if (l : Int) < 4 then (l : Int) else 4) else 2) = (t : Int) ∧ (t : Int) ≤ 4 := by
  by_cases h : (l : Int) < 4
  · rw [if_pos h]
    by_cases h2 : (l : Int) > 2
    · rw [if_pos h2]; exact ⟨l, rfl, by omega⟩
    · rw [if_neg h2]; exact ⟨2, rfl, by decide⟩
  · rw [if_neg h, if_pos (by decide)]; exact ⟨4, rfl, by decide⟩
theorem comL_nil : comL 2 [] = [[0, 0]] := by decide +kernel
theorem comL_one : comL 3 [[0, 0, 0]] = [[0, 0, 0]] := by decide +kernel
def sp_law : SpD := fun xs st Q => ∃ ns : List Int, xs = [.d (.list (ns.map .int))] ∧ ns.length ≤ 63 ∧ ∀ st', Q (Bo true) st'
theorem len_law : ∀ xs st Q, sp_law xs st Q → xs.length = 1 := by rintro xs st Q ⟨a, rfl, _⟩; rfl
theorem law_true : ∀ ns : List Int, ns.length ≤ 63 → sp_law [.d (.list (ns.map .int))] (fun _ => none) (fun x _ => x = .d (.bool true)) := fun ns h => ⟨ns, rfl, h, fun _ => rfl⟩
theorem sem_law : ∀ xs st Q, sp_law xs st Q → rd_law sp_common_multiples sp_law_begun sp_law_draw sp_law_of sp_law_ideal sp_law_lots sp_law_lcm { nx := fun _ st' => Fg Q (.d .none) st', rt := Fg Q } (startD 9 xs) st := by
  rintro xs st Q ⟨ns, rfl, hns, K⟩
  have e0 : startD 9 [.d (.list (ns.map .int))] = [some (.d (.list (ns.map .int))), none, none, none, none, none, none, none, none] := rfl
  rw [e0]
  unfold rd_law
  refine seq fun N hN => ?_
  walk_at "D"
  have z2 : SeqAt.shaped (.tuple [.tuple [.int 0, .int 0]]) = true := by decide +kernel
  have z3 : SeqAt.shaped (.tuple [.tuple [.int 0, .int 0, .int 0]]) = true := by decide +kernel
  have q2 : PyData.eqv (UC.TT [[0, 0]]) (.tuple [.tuple [.int 0, .int 0]]) = true := by decide +kernel
  have q3 : PyData.eqv (UC.TT [[0, 0, 0]]) (.tuple [.tuple [.int 0, .int 0, .int 0]]) = true := by decide +kernel
  refine ⟨by decide, by decide, [], 2, rfl, by decide, by decide, (fun _ h => nomatch h), ?_⟩
  rw [comL_nil]
  refine ⟨by decide, by decide, shaped_TT, z2, ?_⟩
  rw [q2]
  simp only [Bool.not_true, Bool.false_eq_true, if_false]
  refine ⟨by decide, by decide, by decide, [[0, 0, 0]], 3, rfl, by decide, by decide, (fun a h => by rw [List.mem_singleton.mp h]; exact nn_zero (n := 3)), ?_⟩
  rw [comL_one]
  refine ⟨by decide, by decide, shaped_TT, z3, ?_⟩
  rw [q3]
  simp only [Bool.not_true, Bool.false_eq_true, if_false]
  refine hN _ _ ?_; clear hN N
  refine seq fun N0 hN0 => ?_
  walk_at "D"
  obtain ⟨t, ht, ht2⟩ := turns2 ns.length
  simp only [ht]
  refine ⟨by omega, by omega, ?_⟩
  walk_at "D"
  refine for_byT _ (fun _ ε s => ∃ x1 x2 x3 x4 x5 x6 x7, ε = [some (.d (.list (ns.map .int))), x1, x2, x3, x4, x5, x6, x7, none]) ⟨_, _, _, _, _, _, _, rfl⟩ (fun _ _ _ _ => trivial) ?_ ?_
  rotate_left
  · rintro ε s ⟨x1, x2, x3, x4, x5, x6, x7, rfl⟩
    refine hN0 _ _ ?_
    walk_at "D"
    exact fg_ret (K _)
  clear hN0
  rintro i k ε s hk ⟨x1, x2, x3, x4, x5, x6, x7, rfl⟩ L hL
  obtain ⟨rfl, hi⟩ := range_some hk
  walk_at "D"
  refine seq fun N hN => ?_
  walk_at "D"
  refine begun hns (by omega) (by omega) fun m s1 D1 _ => ?_
  refine hN _ _ ?_; clear hN N
  refine seq fun N hN => ?_
  walk_at "D"
  refine draw D1 (by omega) (by omega) (by omega) fun v s2 l2 u2 D2 _ => ?_
  walk_at "D"
  obtain ⟨n, hn⟩ : ∃ n : Nat, 1 + v = (n : Int) := ⟨(1 + v).toNat, by omega⟩
  rw [hn]
  refine hN _ _ ?_; clear hN N
  have h1 : 1 ≤ n := by omega
  have h6 : n ≤ 6 := by omega
  refine seq fun N hN => ?_
  walk_at "D"
  show sp_law_of [.r m, .d (.list ([1, 2, 3, 60].map PyData.int))] s2 _
  refine drawI [1, 2, 3, 60] D2 (by decide) (by decide) (by omega) fun top s3 htop D3 _ => ?_
  have htop : 1 ≤ top ∧ top ≤ 60 := by
    simp only [List.mem_cons, List.not_mem_nil, or_false] at htop
    omega
  refine ⟨m, n, 7, top, _, rfl, h1, by omega, by decide, by omega, by omega, by omega, D3, fun G s4 hG sG D4 _ => ?_⟩
  refine hN _ _ ?_; clear hN N
  have cG := hG.2.1
  have lG := hG.len
  have nG : NNs n G := hG.nns
  have nC : NNs n (comL n G) := fun x hx => nn_mulF nG x (mem_sortU.mp hx)
  have cC : (comL n G).length ≤ 128 := Nat.le_trans (sortU_len _) (Nat.le_trans (len_mulF n G) (Nat.le_trans (Nat.pow_le_pow_right (by decide) cG) (by decide)))
  obtain ⟨r, hr⟩ := head_mulF nG
  have hC : comL n G = List.replicate n 0 :: r := hr
  refine seq fun N hN => ?_
  walk_at "D"
  refine ⟨G, n, rfl, by omega, by omega, nG, ?_⟩
  refine hN _ _ ?_; clear hN N
  refine seq fun N hN => ?_
  walk_at "D"
  refine ⟨G, n, rfl, by omega, by omega, nG, ?_⟩
  walk_at "D"
  simp only [hC, List.map_cons, atI_0]
  walk_at "D"
  refine ⟨by decide, fun h => (nomatch h), by omega, by omega, by decide, ?_⟩
  walk_at "D"
  rw [← hC]
  refine hN _ _ ?_; clear hN N
  refine seq fun N hN => ?_
  walk_at "D"
  refine ⟨by decide, by decide, ?_⟩
  rw [show Int.toNat 4 = 4 from rfl]
  refine for_byT _ (fun j ε s => DrawSt s m (0 + 1 + 1 + 20000 + 2 * j) ∧ ∃ x6, ε = [some (.d (.list (ns.map .int))), some (.d (.int k)), some (.r m), some (.d (.int n)), some (.d (idl n G)), some (.d (TT (comL n G))), x6, x7, none]) ⟨D4, _, rfl⟩ (fun _ _ _ _ => trivial) ?_ ?_
  · rintro j z ε s hj ⟨Dj, y6, rfl⟩ L1 hL1
    obtain ⟨rfl, hj4⟩ := range_some hj
    have hne : (comL n G).map TI ≠ [] := by rw [hC]; exact fun h => nomatch h
    walk_at "D"
    refine drawOfT Dj hne (by rw [List.length_map]; omega) (by omega) fun v s5 hv D5 _ => ?_
    obtain ⟨a, ha, rfl⟩ := List.mem_map.mp hv
    walk_at "D"
    refine drawOfT D5 hne (by rw [List.length_map]; omega) (by omega) fun v s6 hv D6 _ => ?_
    obtain ⟨b, hb, rfl⟩ := List.mem_map.mp hv
    walk_at "D"
    refine ⟨a, b, n, rfl, (nC a ha).1, (nC b hb).1, by omega, ?_⟩
    have hm : lcmL a b ∈ comL n G := mem_sortU.mpr (closed_mulF nG (mem_sortU.mp ha) (mem_sortU.mp hb))
    walk_at "D"
    simp only [hm, decide_true, Bool.not_true, Bool.false_eq_true, if_false]
    exact hL1 _ _ ⟨D6.mono (by omega), _, rfl⟩
  rintro ε s5 ⟨D5, y6, rfl⟩
  rw [List.length_range] at D5
  refine hN _ _ ?_; clear hN N
  refine seq fun N hN => ?_
  walk_at "D"
  refine ⟨by decide, ?_⟩
  have fin : ∀ (y6 y7 : Option DV) s, N [some (.d (.list (ns.map .int))), some (.d (.int k)), some (.r m), some (.d (.int n)), some (.d (idl n G)), some (.d (TT (comL n G))), y6, y7, none] s := fun y6 y7 s => by
    refine hN _ _ ?_
    walk_at "D"
    refine ⟨G, n, rfl, by omega, by omega, nG, ?_⟩
    walk_at "D"
    exact hL _ _ ⟨_, _, _, _, _, _, _, rfl⟩
  by_cases c : G = []
  · simp only [c, decide_true, Bool.not_true, Bool.false_eq_true, if_false]
    rw [← c]
    exact fin _ _ _
  · simp only [c, decide_false, Bool.not_false, if_true]
    have hpos : 0 < G.length := List.length_pos_iff.mpr c
    refine seq fun N2 hN2 => ?_
    walk_at "D"
    refine draw D5 (by omega) (by omega) (by omega) fun u s6 l6 u6 D6 _ => ?_
    walk_at "D"
    obtain ⟨x, hx⟩ : ∃ x : Nat, u = (x : Int) := ⟨u.toNat, by omega⟩
    rw [hx] at u6 ⊢
    have hxn : x < G.length := by omega
    refine hN2 _ _ ?_; clear hN2 N2
    refine seq fun N2 hN2 => ?_
    walk_at "D"
    rw [show (x : Int) + 1 = ((x + 1 : Nat) : Int) by omega]
    simp only [cutD_map]
    simp only [cutD_take, cutD_drop]
    walk_at "D"
    have hsub : (G.take x ++ G.drop (x + 1)).Sublist G := by
      have := (List.Sublist.refl (G.take x)).append (List.drop_sublist 1 (G.drop x))
      rw [List.drop_drop, List.take_append_drop] at this
      exact this
    have hH : NNs n (G.take x ++ G.drop (x + 1)) := fun y hy => nG y (hsub.subset hy)
    have hHl := hsub.length_le
    refine ⟨by rw [List.length_append] at hHl; rw [sizeL]; omega, by decide, G.take x ++ G.drop (x + 1), n, rfl, by omega, by omega, hH, ?_⟩
    refine hN2 _ _ ?_; clear hN2 N2
    have cH : (comL n (G.take x ++ G.drop (x + 1))).length ≤ 128 := Nat.le_trans (sortU_len _) (Nat.le_trans (len_mulF n _) (Nat.le_trans (Nat.pow_le_pow_right (by decide) (Nat.le_trans hHl cG)) (by decide)))
    walk_at "D"
    refine ⟨by rw [sizeL]; omega, ?_⟩
    rw [atI_map2 hxn, List.map_map]
    refine comp_fmT _ (fun b => !decide (b ∈ comL n G)) (fun b => .d (TI b)) trivial _ _ ?_ ?_
    · intro b hb Q1 Q2 h
      walk_at "D"
      exact h
    rw [tis_dv0]
    have e0 : (comL n (G.take x ++ G.drop (x + 1))).filter (fun b => !decide (b ∈ comL n G)) = [] := by
      rw [List.filter_eq_nil_iff]
      intro b hb
      have : b ∈ comL n G := mem_sortU.mpr (sub_mulF hsub (mem_sortU.mp hb))
      simp [this]
    rw [e0]
    walk_at "D"
    have hg : G[x] ∈ comL n G := mem_sortU.mpr (gen_mulF nG (List.getElem_mem hxn))
    have q0 : PyData.eqv (.list []) (.list []) = true := by decide +kernel
    refine ⟨by decide, ?_⟩
    rw [q0]
    simp only [hg, decide_true, Bool.not_true, Bool.false_eq_true, if_false]
    exact fin _ _ _
end U
end

section
set_option Elab.async false
set_option linter.all false
set_option pp.maxSteps 200
set_option maxRecDepth 100000
/-! derivations -/
namespace GD
open PySem L2 DL RD
section
variable {P : Program} {w : World} {K : PySem.W.Frag} {mg : Str → Option Value} {base : Heap}
def top (i : Nat) : Stmt := PySem.Challenge.pw_jointneeds_k40_common_multiples.main.body.getD i (.Pass ⟨0, 0, 0, 0⟩)
structure Tx (mg : Str → Option Value) : Prop where
  b_int : mg "int" = none
  b_isinstance : mg "isinstance" = none
  b_len : mg "len" = none
  b_list : mg "list" = none
  b_max : mg "max" = none
  b_min : mg "min" = none
  b_range : mg "range" = none
  b_set : mg "set" = none
  b_sorted : mg "sorted" = none
  b_sum : mg "sum" = none
  b_tuple : mg "tuple" = none
  b_zip : mg "zip" = none
  c_SMALL_GENERATORS : ∃ t, mg "SMALL_GENERATORS" = some (.int 10 t)
  c_SMALL_VARIABLES : ∃ t, mg "SMALL_VARIABLES" = some (.int 8 t)
/-! _law_begun -/
abbrev s_law_begun : Stmt := top 13
abbrev N_law_begun : List Str := ["script", "k", "cells", "great", "seed", "cell"]
theorem S_law_begun : FnScope N_law_begun ["script", "k"] (defScope s_law_begun) := ⟨rfl, rfl, rfl, by decide +kernel, rfl, by decide +kernel, by decide +kernel⟩
theorem v_law_begun_0 : visB N_law_begun (defScope s_law_begun) 0 "script" = true := by decide +kernel
theorem v_law_begun_1 : visB N_law_begun (defScope s_law_begun) 1 "k" = true := by decide +kernel
theorem v_law_begun_2 : visB N_law_begun (defScope s_law_begun) 2 "cells" = true := by decide +kernel
theorem l_law_begun_2 : locB N_law_begun (defScope s_law_begun) (defScope s_law_begun) 2 "cells" = true := by decide +kernel
theorem v_law_begun_3 : visB N_law_begun (defScope s_law_begun) 3 "great" = true := by decide +kernel
theorem v_law_begun_4 : visB N_law_begun (defScope s_law_begun) 4 "seed" = true := by decide +kernel
theorem l_law_begun_4 : locB N_law_begun (defScope s_law_begun) (defScope s_law_begun) 4 "seed" = true := by decide +kernel
theorem v_law_begun_5 : visB N_law_begun (defScope s_law_begun) 5 "cell" = true := by decide +kernel
theorem l_law_begun_5 : locB N_law_begun (defScope s_law_begun) (defScope s_law_begun) 5 "cell" = true := by decide +kernel
theorem g_law_begun_int : glB (defScope s_law_begun) "int" = true := by decide +kernel
set_option maxHeartbeats 4000000 in
theorem d_law_begun  (T : Tx mg)  : ∀ X, Cok P w K mg base X N_law_begun (defScope s_law_begun) (defScope s_law_begun) 0 → DSs X (defBody s_law_begun) (rd_law_begun) := fun X c =>
  (ds_cons (ds_asg c (de_bin (op_qAdd false) (de_sl false (de_var c v_law_begun_0) (do_some (de_var c v_law_begun_1)) do_none) (de_sl false (de_var c v_law_begun_0) do_none (do_some (de_var c v_law_begun_1)))) (dg_name c l_law_begun_2) rfl rfl)
  (ds_cons (ds_setLc (i := 3) false [("cell", 5)] c (by decide +kernel) (by kernel_rfl) (by decide +kernel) (by decide) (di_seq (de_var c v_law_begun_2)) (fun _ c1 => (dg_name c1 (by decide +kernel))) (fun _ c1 => (dts_one (dt_cp op_qGe rfl (de_var c1 (by decide +kernel)) (de_bin op_qPow de_int de_int)))) (fun _ c1 => (de_var c1 (by decide +kernel))))
  (ds_cons (ds_asg c (de_bin (op_qAdd false) de_int (de_var c v_law_begun_1)) (dg_name c l_law_begun_4) rfl rfl)
  (ds_cons (ds_for c (di_seq (de_var c v_law_begun_2)) (dg_name c l_law_begun_5) (ds_one (ds_asg c (de_bin op_qMod (de_ct c g_law_begun_int T.b_int bt_int c_int (da_cons (de_bin (op_qAdd false) (de_bin (op_qMul false) (de_var c v_law_begun_4) de_int) (de_var c v_law_begun_5)) da_nil)) de_int) (dg_name c l_law_begun_4) rfl rfl)))
  (ds_one (ds_ret (de_disp (dps_cons (de_if (dt_cp (op_qNe c.hu64) rfl (de_var c v_law_begun_3) (de_lst false da_nil)) (de_ix (de_var c v_law_begun_3) de_int (fun _ _ => rfl)) de_int) (dps_cons (de_var c v_law_begun_4) (dps_cons (de_bin (op_qAdd false) (de_var c v_law_begun_2) (de_lst false (da_cons (de_bin (op_qAdd false) (de_bin (op_qMul false) de_int (de_var c v_law_begun_1)) de_int) da_nil))) (dps_cons de_int dps_nil)))) rfl rfl (fun z => by cases z) (by decide))))))))
theorem o_law_begun  (T : Tx mg)  {f : Addr} {fd : FuncData} {sp : SpD} (Fu : Fun K "_law_begun" "_law_begun" s_law_begun f fd) (hm : mg "_law_begun" = some (.ref f)) (len : ∀ xs st Q, sp xs st Q → xs.length = 2) (sem : ∀ xs st Q, sp xs st Q → rd_law_begun { nx := fun _ st' => Fg Q (.d .none) st', rt := Fg Q } (startD 6 xs) st) : Cl P w K mg base "_law_begun" 1 sp :=
  ⟨f, fd, ["script", "k"], hm, Fu.kp, fn_ok Fu S_law_begun len (d_law_begun T ) sem, Fu.binds fun _ _ _ _ _ _ us hl => match us, hl with | [_, _], _ => rfl⟩
/-! _law_draw -/
abbrev s_law_draw : Stmt := top 14
abbrev N_law_draw : List Str := ["m", "below", "found", "spot", "cells", "extra", "cell", "blend"]
theorem S_law_draw : FnScope N_law_draw ["m", "below"] (defScope s_law_draw) := ⟨rfl, rfl, rfl, by decide +kernel, rfl, by decide +kernel, by decide +kernel⟩
theorem v_law_draw_0 : visB N_law_draw (defScope s_law_draw) 0 "m" = true := by decide +kernel
theorem v_law_draw_1 : visB N_law_draw (defScope s_law_draw) 1 "below" = true := by decide +kernel
theorem v_law_draw_2 : visB N_law_draw (defScope s_law_draw) 2 "found" = true := by decide +kernel
theorem l_law_draw_2 : locB N_law_draw (defScope s_law_draw) (defScope s_law_draw) 2 "found" = true := by decide +kernel
theorem v_law_draw_3 : visB N_law_draw (defScope s_law_draw) 3 "spot" = true := by decide +kernel
theorem l_law_draw_3 : locB N_law_draw (defScope s_law_draw) (defScope s_law_draw) 3 "spot" = true := by decide +kernel
theorem v_law_draw_4 : visB N_law_draw (defScope s_law_draw) 4 "cells" = true := by decide +kernel
theorem v_law_draw_5 : visB N_law_draw (defScope s_law_draw) 5 "extra" = true := by decide +kernel
theorem v_law_draw_6 : visB N_law_draw (defScope s_law_draw) 6 "cell" = true := by decide +kernel
theorem l_law_draw_6 : locB N_law_draw (defScope s_law_draw) (defScope s_law_draw) 6 "cell" = true := by decide +kernel
theorem v_law_draw_7 : visB N_law_draw (defScope s_law_draw) 7 "blend" = true := by decide +kernel
theorem l_law_draw_7 : locB N_law_draw (defScope s_law_draw) (defScope s_law_draw) 7 "blend" = true := by decide +kernel
theorem g_law_draw_int : glB (defScope s_law_draw) "int" = true := by decide +kernel
theorem g_law_draw_len : glB (defScope s_law_draw) "len" = true := by decide +kernel
set_option maxHeartbeats 4000000 in
theorem d_law_draw  (T : Tx mg)  : ∀ X, Cok P w K mg base X N_law_draw (defScope s_law_draw) (defScope s_law_draw) 0 → DSs X (defBody s_law_draw) (rd_law_draw) := fun X c =>
  (ds_cons (ds_if (dt_cp op_qGt rfl (de_dget c (de_var c v_law_draw_0) de_str (fun _ _ => rfl)) de_int) (ds_cons (ds_asg c (de_bin op_qMod (de_ct c g_law_draw_int T.b_int bt_int c_int (da_cons (de_dget c (de_var c v_law_draw_0) de_str (fun _ _ => rfl)) da_nil)) (de_var c v_law_draw_1)) (dg_name c l_law_draw_2) rfl rfl)
      (ds_cons (ds_dput c (de_var c v_law_draw_0) de_str (de_bin op_qFdiv (de_dget c (de_var c v_law_draw_0) de_str (fun _ _ => rfl)) (de_var c v_law_draw_1)) rfl)
      (ds_one (ds_ret (de_var c v_law_draw_2))))) ds_nil)
  (ds_cons (ds_asg c (de_dget c (de_var c v_law_draw_0) de_str (fun _ _ => rfl)) (dg_name c l_law_draw_3) rfl rfl)
  (ds_cons (ds_dput c (de_var c v_law_draw_0) de_str (de_bin (op_qAdd false) (de_var c v_law_draw_3) de_int) rfl)
  (ds_cons (ds_par (i := 4) (j := 5) c (by decide +kernel) (da_cons (de_dget c (de_var c v_law_draw_0) de_str (fun _ _ => rfl)) (da_cons (de_bin (op_qAdd false) (de_dget c (de_var c v_law_draw_0) de_str (fun _ _ => rfl)) (de_bin (op_qMul false) (de_bin (op_qMul false) de_int (de_var c v_law_draw_3)) (de_var c v_law_draw_3))) da_nil)) (by kernel_rfl))
  (ds_cons (ds_asg c (de_ix (de_var c v_law_draw_4) (de_bin op_qMod (de_ct c g_law_draw_int T.b_int bt_int c_int (da_cons (de_var c v_law_draw_3) da_nil)) (de_cb c g_law_draw_len T.b_len bb_len c_len (da_cons (de_var c v_law_draw_4) da_nil))) (fun _ _ => rfl)) (dg_name c l_law_draw_6) rfl rfl)
  (ds_cons (ds_asg c (de_bin op_qMod (de_ct c g_law_draw_int T.b_int bt_int c_int (da_cons (de_bin (op_qAdd false) (de_bin (op_qMul false) (de_var c v_law_draw_6) (de_bin (op_qAdd false) (de_bin (op_qMul false) de_int (de_var c v_law_draw_3)) de_int)) (de_var c v_law_draw_5)) da_nil)) de_int) (dg_name c l_law_draw_7) rfl rfl)
  (ds_cons (ds_asg c (de_bin op_qMod (de_ct c g_law_draw_int T.b_int bt_int c_int (da_cons (de_bin (op_qAdd false) (de_bin (op_qAdd false) (de_bin (op_qMul false) (de_var c v_law_draw_7) (de_var c v_law_draw_7)) (de_bin (op_qMul false) de_int (de_var c v_law_draw_3))) (de_dget c (de_var c v_law_draw_0) de_str (fun _ _ => rfl))) da_nil)) de_int) (dg_name c l_law_draw_7) rfl rfl)
  (ds_one (ds_ret (de_bin op_qMod (de_bin op_qFdiv (de_bin op_qMod (de_ct c g_law_draw_int T.b_int bt_int c_int (da_cons (de_bin (op_qAdd false) (de_bin (op_qMul false) (de_var c v_law_draw_7) de_int) (de_var c v_law_draw_3)) da_nil)) de_int) de_int) (de_var c v_law_draw_1)))))))))))
theorem o_law_draw  (T : Tx mg)  {f : Addr} {fd : FuncData} {sp : SpD} (Fu : Fun K "_law_draw" "_law_draw" s_law_draw f fd) (hm : mg "_law_draw" = some (.ref f)) (len : ∀ xs st Q, sp xs st Q → xs.length = 2) (sem : ∀ xs st Q, sp xs st Q → rd_law_draw { nx := fun _ st' => Fg Q (.d .none) st', rt := Fg Q } (startD 8 xs) st) : Cl P w K mg base "_law_draw" 1 sp :=
  ⟨f, fd, ["m", "below"], hm, Fu.kp, fn_ok Fu S_law_draw len (d_law_draw T ) sem, Fu.binds fun _ _ _ _ _ _ us hl => match us, hl with | [_, _], _ => rfl⟩
/-! _law_monomial -/
abbrev s_law_monomial : Stmt := top 19
abbrev N_law_monomial : List Str := ["m", "n", "top", "k"]
theorem S_law_monomial : FnScope N_law_monomial ["m", "n", "top"] (defScope s_law_monomial) := ⟨rfl, rfl, rfl, by decide +kernel, rfl, by decide +kernel, by decide +kernel⟩
theorem v_law_monomial_1 : visB N_law_monomial (defScope s_law_monomial) 1 "n" = true := by decide +kernel
theorem g_law_monomial_range : glB (defScope s_law_monomial) "range" = true := by decide +kernel
theorem g_law_monomial_tuple : glB (defScope s_law_monomial) "tuple" = true := by decide +kernel
set_option maxHeartbeats 4000000 in
theorem d_law_monomial {sp_law_draw : SpD} (T : Tx mg) (C_law_draw : Cl P w K mg base "_law_draw" 1 sp_law_draw) : ∀ X, Cok P w K mg base X N_law_monomial (defScope s_law_monomial) (defScope s_law_monomial) 1 → DSs X (defBody s_law_monomial) (rd_law_monomial sp_law_draw) := fun X c =>
  (ds_one (ds_ret (de_ct c g_law_monomial_tuple T.b_tuple bt_tuple c_tuple (da_cons (de_lc false [("k", 3)] c (by decide +kernel) (by decide) (di_rng1 c g_law_monomial_range T.b_range (da_cons (de_var c v_law_monomial_1) da_nil)) (fun _ c1 => (dg_name c1 (by decide +kernel))) (fun _ c1 => dts_nil) (fun _ c1 => (de_if (dt_cp op_qGt rfl (de_callC c1 (by decide +kernel) C_law_draw (by decide) (da_cons (de_var c1 (by decide +kernel)) (da_cons de_int da_nil))) de_int) (de_callC c1 (by decide +kernel) C_law_draw (by decide) (da_cons (de_var c1 (by decide +kernel)) (da_cons (de_bin (op_qAdd false) (de_var c1 (by decide +kernel)) de_int) da_nil))) de_int))) da_nil))))
theorem o_law_monomial {sp_law_draw : SpD} (T : Tx mg) (C_law_draw : Cl P w K mg base "_law_draw" 1 sp_law_draw) {f : Addr} {fd : FuncData} {sp : SpD} (Fu : Fun K "_law_monomial" "_law_monomial" s_law_monomial f fd) (hm : mg "_law_monomial" = some (.ref f)) (len : ∀ xs st Q, sp xs st Q → xs.length = 3) (sem : ∀ xs st Q, sp xs st Q → rd_law_monomial sp_law_draw { nx := fun _ st' => Fg Q (.d .none) st', rt := Fg Q } (startD 4 xs) st) : Cl P w K mg base "_law_monomial" 2 sp :=
  ⟨f, fd, ["m", "n", "top"], hm, Fu.kp, fn_ok Fu S_law_monomial len (d_law_monomial T C_law_draw) sem, Fu.binds fun _ _ _ _ _ _ us hl => match us, hl with | [_, _, _], _ => rfl⟩
/-! _law_divides -/
abbrev s_law_divides : Stmt := top 16
abbrev N_law_divides : List Str := ["a", "b", "k"]
theorem S_law_divides : FnScope N_law_divides ["a", "b"] (defScope s_law_divides) := ⟨rfl, rfl, rfl, by decide +kernel, rfl, by decide +kernel, by decide +kernel⟩
theorem v_law_divides_0 : visB N_law_divides (defScope s_law_divides) 0 "a" = true := by decide +kernel
theorem g_law_divides_len : glB (defScope s_law_divides) "len" = true := by decide +kernel
theorem g_law_divides_range : glB (defScope s_law_divides) "range" = true := by decide +kernel
set_option maxHeartbeats 4000000 in
theorem d_law_divides  (T : Tx mg)  : ∀ X, Cok P w K mg base X N_law_divides (defScope s_law_divides) (defScope s_law_divides) 0 → DSs X (defBody s_law_divides) (rd_law_divides) := fun X c =>
  (ds_one (ds_ret (de_cp (op_qEq c.hu64) rfl (de_lc false [("k", 2)] c (by decide +kernel) (by decide) (di_rng1 c g_law_divides_range T.b_range (da_cons (de_cb c g_law_divides_len T.b_len bb_len c_len (da_cons (de_var c v_law_divides_0) da_nil)) da_nil)) (fun _ c1 => (dg_name c1 (by decide +kernel))) (fun _ c1 => (dts_one (dt_cp op_qGt rfl (de_ix (de_var c1 (by decide +kernel)) (de_var c1 (by decide +kernel)) (fun _ _ => rfl)) (de_ix (de_var c1 (by decide +kernel)) (de_var c1 (by decide +kernel)) (fun _ _ => rfl))))) (fun _ c1 => (de_var c1 (by decide +kernel)))) (de_lst false da_nil))))
theorem o_law_divides  (T : Tx mg)  {f : Addr} {fd : FuncData} {sp : SpD} (Fu : Fun K "_law_divides" "_law_divides" s_law_divides f fd) (hm : mg "_law_divides" = some (.ref f)) (len : ∀ xs st Q, sp xs st Q → xs.length = 2) (sem : ∀ xs st Q, sp xs st Q → rd_law_divides { nx := fun _ st' => Fg Q (.d .none) st', rt := Fg Q } (startD 3 xs) st) : Cl P w K mg base "_law_divides" 1 sp :=
  ⟨f, fd, ["a", "b"], hm, Fu.kp, fn_ok Fu S_law_divides len (d_law_divides T ) sem, Fu.binds fun _ _ _ _ _ _ us hl => match us, hl with | [_, _], _ => rfl⟩
/-! _law_least -/
abbrev s_law_least : Stmt := top 18
abbrev N_law_least : List Str := ["monomials", "some", "a", "b"]
theorem S_law_least : FnScope N_law_least ["monomials"] (defScope s_law_least) := ⟨rfl, rfl, rfl, by decide +kernel, rfl, by decide +kernel, by decide +kernel⟩
theorem v_law_least_0 : visB N_law_least (defScope s_law_least) 0 "monomials" = true := by decide +kernel
theorem v_law_least_1 : visB N_law_least (defScope s_law_least) 1 "some" = true := by decide +kernel
theorem l_law_least_1 : locB N_law_least (defScope s_law_least) (defScope s_law_least) 1 "some" = true := by decide +kernel
theorem g_law_least_sorted : glB (defScope s_law_least) "sorted" = true := by decide +kernel
theorem g_law_least_set : glB (defScope s_law_least) "set" = true := by decide +kernel
theorem g_law_least_tuple : glB (defScope s_law_least) "tuple" = true := by decide +kernel
set_option maxHeartbeats 4000000 in
theorem d_law_least {sp_law_divides : SpD} (T : Tx mg) (C_law_divides : Cl P w K mg base "_law_divides" 1 sp_law_divides) : ∀ X, Cok P w K mg base X N_law_least (defScope s_law_least) (defScope s_law_least) 1 → DSs X (defBody s_law_least) (rd_law_least sp_law_divides) := fun X c =>
  (ds_cons (ds_asg c (BS.de_sortB false c g_law_least_sorted T.b_sorted g_law_least_set T.b_set (de_var c v_law_least_0)) (dg_name c l_law_least_1) rfl rfl)
  (ds_one (ds_ret (de_ct c g_law_least_tuple T.b_tuple bt_tuple c_tuple (da_cons (de_lc false [("a", 2)] c (by decide +kernel) (by decide) (di_seq (de_var c v_law_least_1)) (fun _ c1 => (dg_name c1 (by decide +kernel))) (fun _ c1 => (dts_one (dt_cp (op_qEq c1.hu64) rfl (de_lc false [("b", 3)] c1 (by decide +kernel) (by decide) (di_seq (de_var c1 (by decide +kernel))) (fun _ c2 => (dg_name c2 (by decide +kernel))) (fun _ c2 => (dts_one (DW.pt (dw_and (dt_cp (op_qNe c2.hu64) rfl (de_var c2 (by decide +kernel)) (de_var c2 (by decide +kernel))) (dw_and1 (dt_val (de_callC c2 (by decide +kernel) C_law_divides (by decide) (da_cons (de_var c2 (by decide +kernel)) (da_cons (de_var c2 (by decide +kernel)) da_nil))))))))) (fun _ c2 => (de_var c2 (by decide +kernel)))) (de_lst false da_nil)))) (fun _ c1 => (de_var c1 (by decide +kernel)))) da_nil)))))
theorem o_law_least {sp_law_divides : SpD} (T : Tx mg) (C_law_divides : Cl P w K mg base "_law_divides" 1 sp_law_divides) {f : Addr} {fd : FuncData} {sp : SpD} (Fu : Fun K "_law_least" "_law_least" s_law_least f fd) (hm : mg "_law_least" = some (.ref f)) (len : ∀ xs st Q, sp xs st Q → xs.length = 1) (sem : ∀ xs st Q, sp xs st Q → rd_law_least sp_law_divides { nx := fun _ st' => Fg Q (.d .none) st', rt := Fg Q } (startD 4 xs) st) : Cl P w K mg base "_law_least" 2 sp :=
  ⟨f, fd, ["monomials"], hm, Fu.kp, fn_ok Fu S_law_least len (d_law_least T C_law_divides) sem, Fu.binds fun _ _ _ _ _ _ us hl => match us, hl with | [_], _ => rfl⟩
/-! _law_ideal -/
abbrev s_law_ideal : Stmt := top 20
abbrev N_law_ideal : List Str := ["m", "n", "count", "top", "some", "k", "a"]
theorem S_law_ideal : FnScope N_law_ideal ["m", "n", "count", "top"] (defScope s_law_ideal) := ⟨rfl, rfl, rfl, by decide +kernel, rfl, by decide +kernel, by decide +kernel⟩
theorem v_law_ideal_0 : visB N_law_ideal (defScope s_law_ideal) 0 "m" = true := by decide +kernel
theorem v_law_ideal_1 : visB N_law_ideal (defScope s_law_ideal) 1 "n" = true := by decide +kernel
theorem v_law_ideal_2 : visB N_law_ideal (defScope s_law_ideal) 2 "count" = true := by decide +kernel
theorem v_law_ideal_4 : visB N_law_ideal (defScope s_law_ideal) 4 "some" = true := by decide +kernel
theorem g_law_ideal_law_draw : glB (defScope s_law_ideal) "_law_draw" = true := by decide +kernel
theorem g_law_ideal_range : glB (defScope s_law_ideal) "range" = true := by decide +kernel
theorem g_law_ideal_law_least : glB (defScope s_law_ideal) "_law_least" = true := by decide +kernel
set_option maxHeartbeats 4000000 in
theorem d_law_ideal {sp_law_draw : SpD} {sp_law_monomial : SpD} {sp_law_least : SpD} (T : Tx mg) (C_law_draw : Cl P w K mg base "_law_draw" 1 sp_law_draw) (C_law_monomial : Cl P w K mg base "_law_monomial" 2 sp_law_monomial) (C_law_least : Cl P w K mg base "_law_least" 2 sp_law_least) : ∀ X, Cok P w K mg base X N_law_ideal (defScope s_law_ideal) (defScope s_law_ideal) 2 → DSs X (defBody s_law_ideal) (rd_law_ideal sp_law_draw sp_law_monomial sp_law_least) := fun X c =>
  (ds_cons (ds_setLc (i := 4) false [("k", 5)] c (by decide +kernel) (by kernel_rfl) (by decide +kernel) (by decide) (di_rng1 c g_law_ideal_range T.b_range (da_cons (de_callC c g_law_ideal_law_draw C_law_draw (by decide) (da_cons (de_var c v_law_ideal_0) (da_cons (de_bin (op_qAdd false) (de_var c v_law_ideal_2) de_int) da_nil))) da_nil)) (fun _ c1 => (dg_name c1 (by decide +kernel))) (fun _ c1 => dts_nil) (fun _ c1 => (de_callC c1 (by decide +kernel) C_law_monomial (by decide) (da_cons (de_var c1 (by decide +kernel)) (da_cons (de_var c1 (by decide +kernel)) (da_cons (de_var c1 (by decide +kernel)) da_nil))))))
  (ds_one (ds_ret (de_tup (da_cons (de_var c v_law_ideal_1) (da_cons (de_callC c g_law_ideal_law_least C_law_least (by decide) (da_cons (de_lc false [("a", 6)] c (by decide +kernel) (by decide) (di_seq (de_var c v_law_ideal_4)) (fun _ c1 => (dg_name c1 (by decide +kernel))) (fun _ c1 => (dts_one (dt_cp op_qGt rfl (de_cb c1 (by decide +kernel) T.b_sum bb_sum (c_sum c1.calm) (da_cons (de_var c1 (by decide +kernel)) da_nil)) de_int))) (fun _ c1 => (de_var c1 (by decide +kernel)))) da_nil)) da_nil))))))
theorem o_law_ideal {sp_law_draw : SpD} {sp_law_monomial : SpD} {sp_law_least : SpD} (T : Tx mg) (C_law_draw : Cl P w K mg base "_law_draw" 1 sp_law_draw) (C_law_monomial : Cl P w K mg base "_law_monomial" 2 sp_law_monomial) (C_law_least : Cl P w K mg base "_law_least" 2 sp_law_least) {f : Addr} {fd : FuncData} {sp : SpD} (Fu : Fun K "_law_ideal" "_law_ideal" s_law_ideal f fd) (hm : mg "_law_ideal" = some (.ref f)) (len : ∀ xs st Q, sp xs st Q → xs.length = 4) (sem : ∀ xs st Q, sp xs st Q → rd_law_ideal sp_law_draw sp_law_monomial sp_law_least { nx := fun _ st' => Fg Q (.d .none) st', rt := Fg Q } (startD 7 xs) st) : Cl P w K mg base "_law_ideal" 3 sp :=
  ⟨f, fd, ["m", "n", "count", "top"], hm, Fu.kp, fn_ok Fu S_law_ideal len (d_law_ideal T C_law_draw C_law_monomial C_law_least) sem, Fu.binds fun _ _ _ _ _ _ us hl => match us, hl with | [_, _, _, _], _ => rfl⟩
/-! want_small -/
abbrev s_want_small : Stmt := top 8
abbrev N_want_small : List Str := ["ideal"]
theorem S_want_small : FnScope N_want_small ["ideal"] (defScope s_want_small) := ⟨rfl, rfl, rfl, by decide +kernel, rfl, by decide +kernel, by decide +kernel⟩
theorem v_want_small_0 : visB N_want_small (defScope s_want_small) 0 "ideal" = true := by decide +kernel
theorem g_want_small_SMALL_VARIABLES : glB (defScope s_want_small) "SMALL_VARIABLES" = true := by decide +kernel
theorem g_want_small_len : glB (defScope s_want_small) "len" = true := by decide +kernel
theorem g_want_small_SMALL_GENERATORS : glB (defScope s_want_small) "SMALL_GENERATORS" = true := by decide +kernel
set_option maxHeartbeats 4000000 in
theorem d_want_small  (T : Tx mg)  : ∀ X, Cok P w K mg base X N_want_small (defScope s_want_small) (defScope s_want_small) 0 → DSs X (defBody s_want_small) (rd_want_small) := fun X c =>
  (ds_cons (ds_if (dt_cp op_qGt rfl (de_ix (de_var c v_want_small_0) de_int (fun _ _ => rfl)) (de_gint c g_want_small_SMALL_VARIABLES T.c_SMALL_VARIABLES)) (ds_one ds_never) ds_nil)
  (ds_one (ds_if (dt_cp op_qGt rfl (de_cb c g_want_small_len T.b_len bb_len c_len (da_cons (de_ix (de_var c v_want_small_0) de_int (fun _ _ => rfl)) da_nil)) (de_gint c g_want_small_SMALL_GENERATORS T.c_SMALL_GENERATORS)) (ds_one ds_never) ds_nil)))
theorem o_want_small  (T : Tx mg)  {f : Addr} {fd : FuncData} {sp : SpD} (Fu : Fun K "want_small" "want_small" s_want_small f fd) (hm : mg "want_small" = some (.ref f)) (len : ∀ xs st Q, sp xs st Q → xs.length = 1) (sem : ∀ xs st Q, sp xs st Q → rd_want_small { nx := fun _ st' => Fg Q (.d .none) st', rt := Fg Q } (startD 1 xs) st) : Cl P w K mg base "want_small" 1 sp :=
  ⟨f, fd, ["ideal"], hm, Fu.kp, fn_ok Fu S_want_small len (d_want_small T ) sem, Fu.binds fun _ _ _ _ _ _ us hl => match us, hl with | [_], _ => rfl⟩
/-! lcm_of -/
abbrev s_lcm_of : Stmt := top 4
abbrev N_lcm_of : List Str := ["a", "b", "one", "other"]
theorem S_lcm_of : FnScope N_lcm_of ["a", "b"] (defScope s_lcm_of) := ⟨rfl, rfl, rfl, by decide +kernel, rfl, by decide +kernel, by decide +kernel⟩
theorem v_lcm_of_0 : visB N_lcm_of (defScope s_lcm_of) 0 "a" = true := by decide +kernel
theorem v_lcm_of_1 : visB N_lcm_of (defScope s_lcm_of) 1 "b" = true := by decide +kernel
theorem g_lcm_of_zip : glB (defScope s_lcm_of) "zip" = true := by decide +kernel
theorem g_lcm_of_tuple : glB (defScope s_lcm_of) "tuple" = true := by decide +kernel
set_option maxHeartbeats 4000000 in
theorem d_lcm_of  (T : Tx mg)  : ∀ X, Cok P w K mg base X N_lcm_of (defScope s_lcm_of) (defScope s_lcm_of) 0 → DSs X (defBody s_lcm_of) (rd_lcm_of) := fun X c =>
  (ds_one (ds_ret (de_ct c g_lcm_of_tuple T.b_tuple bt_tuple c_tuple (da_cons (de_lc false [("one", 2), ("other", 3)] c (by decide +kernel) (by decide) (di_zip c g_lcm_of_zip T.b_zip (da_cons (de_var c v_lcm_of_0) (da_cons (de_var c v_lcm_of_1) da_nil))) (fun _ c1 => (dg_tup c1 (dgs_cons (dg_name c1 (by decide +kernel)) (dgs_cons (dg_name c1 (by decide +kernel)) dgs_nil)))) (fun _ c1 => dts_nil) (fun _ c1 => (de_cb c1 (by decide +kernel) T.b_max bb_max (c_max2 c1.calm) (da_cons (de_var c1 (by decide +kernel)) (da_cons (de_var c1 (by decide +kernel)) da_nil))))) da_nil))))
theorem o_lcm_of  (T : Tx mg)  {f : Addr} {fd : FuncData} {sp : SpD} (Fu : Fun K "lcm_of" "lcm_of" s_lcm_of f fd) (hm : mg "lcm_of" = some (.ref f)) (len : ∀ xs st Q, sp xs st Q → xs.length = 2) (sem : ∀ xs st Q, sp xs st Q → rd_lcm_of { nx := fun _ st' => Fg Q (.d .none) st', rt := Fg Q } (startD 4 xs) st) : Cl P w K mg base "lcm_of" 1 sp :=
  ⟨f, fd, ["a", "b"], hm, Fu.kp, fn_ok Fu S_lcm_of len (d_lcm_of T ) sem, Fu.binds fun _ _ _ _ _ _ us hl => match us, hl with | [_, _], _ => rfl⟩
/-! multiples_of -/
abbrev s_multiples_of : Stmt := top 10
abbrev N_multiples_of : List Str := ["n", "generators", "found", "generator", "multiple"]
theorem S_multiples_of : FnScope N_multiples_of ["n", "generators"] (defScope s_multiples_of) := ⟨rfl, rfl, rfl, by decide +kernel, rfl, by decide +kernel, by decide +kernel⟩
theorem v_multiples_of_0 : visB N_multiples_of (defScope s_multiples_of) 0 "n" = true := by decide +kernel
theorem v_multiples_of_1 : visB N_multiples_of (defScope s_multiples_of) 1 "generators" = true := by decide +kernel
theorem v_multiples_of_2 : visB N_multiples_of (defScope s_multiples_of) 2 "found" = true := by decide +kernel
theorem l_multiples_of_2 : locB N_multiples_of (defScope s_multiples_of) (defScope s_multiples_of) 2 "found" = true := by decide +kernel
theorem v_multiples_of_3 : visB N_multiples_of (defScope s_multiples_of) 3 "generator" = true := by decide +kernel
theorem l_multiples_of_3 : locB N_multiples_of (defScope s_multiples_of) (defScope s_multiples_of) 3 "generator" = true := by decide +kernel
theorem v_multiples_of_4 : visB N_multiples_of (defScope s_multiples_of) 4 "multiple" = true := by decide +kernel
theorem l_multiples_of_4 : locB N_multiples_of (defScope s_multiples_of) (defScope s_multiples_of) 4 "multiple" = true := by decide +kernel
theorem g_multiples_of_list : glB (defScope s_multiples_of) "list" = true := by decide +kernel
theorem g_multiples_of_lcm_of : glB (defScope s_multiples_of) "lcm_of" = true := by decide +kernel
theorem g_multiples_of_sorted : glB (defScope s_multiples_of) "sorted" = true := by decide +kernel
theorem g_multiples_of_tuple : glB (defScope s_multiples_of) "tuple" = true := by decide +kernel
set_option maxHeartbeats 4000000 in
theorem d_multiples_of {sp_lcm_of : SpD} (T : Tx mg) (C_lcm_of : Cl P w K mg base "lcm_of" 1 sp_lcm_of) : ∀ X, Cok P w K mg base X N_multiples_of (defScope s_multiples_of) (defScope s_multiples_of) 1 → DSs X (defBody s_multiples_of) (rd_multiples_of sp_lcm_of) := fun X c =>
  (ds_cons (ds_asg c (de_dispT c (de_bin (op_qMul false) (de_tup (da_cons de_int da_nil)) (de_var c v_multiples_of_0)) de_bl) (dg_name c l_multiples_of_2) rfl rfl)
  (ds_cons (ds_for c (di_seq (de_var c v_multiples_of_1)) (dg_name c l_multiples_of_3) (ds_one (ds_for c (di_seq (de_ct c g_multiples_of_list T.b_list bt_list (c_listDT false c.calm) (da_cons (de_var c v_multiples_of_2) da_nil))) (dg_name c l_multiples_of_4) (ds_one (ds_dput c (de_var c v_multiples_of_2) (de_callC c g_multiples_of_lcm_of C_lcm_of (by decide) (da_cons (de_var c v_multiples_of_4) (da_cons (de_var c v_multiples_of_3) da_nil))) de_bl rfl)))))
  (ds_one (ds_ret (de_ct c g_multiples_of_tuple T.b_tuple bt_tuple c_tuple (da_cons (de_cb c g_multiples_of_sorted T.b_sorted bb_sorted (c_sortDT false c.calm c.hu65) (da_cons (de_var c v_multiples_of_2) da_nil)) da_nil))))))
theorem o_multiples_of {sp_lcm_of : SpD} (T : Tx mg) (C_lcm_of : Cl P w K mg base "lcm_of" 1 sp_lcm_of) {f : Addr} {fd : FuncData} {sp : SpD} (Fu : Fun K "multiples_of" "multiples_of" s_multiples_of f fd) (hm : mg "multiples_of" = some (.ref f)) (len : ∀ xs st Q, sp xs st Q → xs.length = 2) (sem : ∀ xs st Q, sp xs st Q → rd_multiples_of sp_lcm_of { nx := fun _ st' => Fg Q (.d .none) st', rt := Fg Q } (startD 5 xs) st) : Cl P w K mg base "multiples_of" 2 sp :=
  ⟨f, fd, ["n", "generators"], hm, Fu.kp, fn_ok Fu S_multiples_of len (d_multiples_of T C_lcm_of) sem, Fu.binds fun _ _ _ _ _ _ us hl => match us, hl with | [_, _], _ => rfl⟩
/-! common_multiples -/
abbrev s_common_multiples : Stmt := top 11
abbrev N_common_multiples : List Str := ["ideal"]
theorem S_common_multiples : FnScope N_common_multiples ["ideal"] (defScope s_common_multiples) := ⟨rfl, rfl, rfl, by decide +kernel, rfl, by decide +kernel, by decide +kernel⟩
theorem v_common_multiples_0 : visB N_common_multiples (defScope s_common_multiples) 0 "ideal" = true := by decide +kernel
theorem g_common_multiples_want_small : glB (defScope s_common_multiples) "want_small" = true := by decide +kernel
theorem g_common_multiples_multiples_of : glB (defScope s_common_multiples) "multiples_of" = true := by decide +kernel
set_option maxHeartbeats 4000000 in
theorem d_common_multiples {sp_want_small : SpD} {sp_multiples_of : SpD} (T : Tx mg) (C_want_small : Cl P w K mg base "want_small" 1 sp_want_small) (C_multiples_of : Cl P w K mg base "multiples_of" 2 sp_multiples_of) : ∀ X, Cok P w K mg base X N_common_multiples (defScope s_common_multiples) (defScope s_common_multiples) 2 → DSs X (defBody s_common_multiples) (rd_common_multiples sp_want_small sp_multiples_of) := fun X c =>
  (ds_cons (ds_expr (de_callC c g_common_multiples_want_small C_want_small (by decide) (da_cons (de_var c v_common_multiples_0) da_nil)))
  (ds_one (ds_ret (de_callC c g_common_multiples_multiples_of C_multiples_of (by decide) (da_cons (de_ix (de_var c v_common_multiples_0) de_int (fun _ _ => rfl)) (da_cons (de_ix (de_var c v_common_multiples_0) de_int (fun _ _ => rfl)) da_nil))))))
theorem o_common_multiples {sp_want_small : SpD} {sp_multiples_of : SpD} (T : Tx mg) (C_want_small : Cl P w K mg base "want_small" 1 sp_want_small) (C_multiples_of : Cl P w K mg base "multiples_of" 2 sp_multiples_of) {f : Addr} {fd : FuncData} {sp : SpD} (Fu : Fun K "common_multiples" "common_multiples" s_common_multiples f fd) (hm : mg "common_multiples" = some (.ref f)) (len : ∀ xs st Q, sp xs st Q → xs.length = 1) (sem : ∀ xs st Q, sp xs st Q → rd_common_multiples sp_want_small sp_multiples_of { nx := fun _ st' => Fg Q (.d .none) st', rt := Fg Q } (startD 1 xs) st) : Cl P w K mg base "common_multiples" 3 sp :=
  ⟨f, fd, ["ideal"], hm, Fu.kp, fn_ok Fu S_common_multiples len (d_common_multiples T C_want_small C_multiples_of) sem, Fu.binds fun _ _ _ _ _ _ us hl => match us, hl with | [_], _ => rfl⟩
/-! _law_of -/
abbrev s_law_of : Stmt := top 15
abbrev N_law_of : List Str := ["m", "some"]
theorem S_law_of : FnScope N_law_of ["m", "some"] (defScope s_law_of) := ⟨rfl, rfl, rfl, by decide +kernel, rfl, by decide +kernel, by decide +kernel⟩
theorem v_law_of_0 : visB N_law_of (defScope s_law_of) 0 "m" = true := by decide +kernel
theorem v_law_of_1 : visB N_law_of (defScope s_law_of) 1 "some" = true := by decide +kernel
theorem g_law_of_len : glB (defScope s_law_of) "len" = true := by decide +kernel
theorem g_law_of_law_draw : glB (defScope s_law_of) "_law_draw" = true := by decide +kernel
set_option maxHeartbeats 4000000 in
theorem d_law_of {sp_law_draw : SpD} (T : Tx mg) (C_law_draw : Cl P w K mg base "_law_draw" 1 sp_law_draw) : ∀ X, Cok P w K mg base X N_law_of (defScope s_law_of) (defScope s_law_of) 1 → DSs X (defBody s_law_of) (rd_law_of sp_law_draw) := fun X c =>
  (ds_one (ds_ret (de_ix (de_var c v_law_of_1) (de_callC c g_law_of_law_draw C_law_draw (by decide) (da_cons (de_var c v_law_of_0) (da_cons (de_cb c g_law_of_len T.b_len bb_len c_len (da_cons (de_var c v_law_of_1) da_nil)) da_nil))) (fun _ _ => rfl))))
theorem o_law_of {sp_law_draw : SpD} (T : Tx mg) (C_law_draw : Cl P w K mg base "_law_draw" 1 sp_law_draw) {f : Addr} {fd : FuncData} {sp : SpD} (Fu : Fun K "_law_of" "_law_of" s_law_of f fd) (hm : mg "_law_of" = some (.ref f)) (len : ∀ xs st Q, sp xs st Q → xs.length = 2) (sem : ∀ xs st Q, sp xs st Q → rd_law_of sp_law_draw { nx := fun _ st' => Fg Q (.d .none) st', rt := Fg Q } (startD 2 xs) st) : Cl P w K mg base "_law_of" 2 sp :=
  ⟨f, fd, ["m", "some"], hm, Fu.kp, fn_ok Fu S_law_of len (d_law_of T C_law_draw) sem, Fu.binds fun _ _ _ _ _ _ us hl => match us, hl with | [_, _], _ => rfl⟩
/-! _law_subsets -/
abbrev s_law_subsets : Stmt := top 21
abbrev N_law_subsets : List Str := ["some", "found", "one", "a"]
theorem S_law_subsets : FnScope N_law_subsets ["some"] (defScope s_law_subsets) := ⟨rfl, rfl, rfl, by decide +kernel, rfl, by decide +kernel, by decide +kernel⟩
theorem v_law_subsets_0 : visB N_law_subsets (defScope s_law_subsets) 0 "some" = true := by decide +kernel
theorem v_law_subsets_1 : visB N_law_subsets (defScope s_law_subsets) 1 "found" = true := by decide +kernel
theorem l_law_subsets_1 : locB N_law_subsets (defScope s_law_subsets) (defScope s_law_subsets) 1 "found" = true := by decide +kernel
theorem l_law_subsets_2 : locB N_law_subsets (defScope s_law_subsets) (defScope s_law_subsets) 2 "one" = true := by decide +kernel
set_option maxHeartbeats 4000000 in
theorem d_law_subsets  (T : Tx mg)  : ∀ X, Cok P w K mg base X N_law_subsets (defScope s_law_subsets) (defScope s_law_subsets) 0 → DSs X (defBody s_law_subsets) (rd_law_subsets) := fun X c =>
  (ds_cons (ds_asg c (de_lst true (da_cons (de_tup da_nil) da_nil)) (dg_name c l_law_subsets_1) rfl rfl)
  (ds_cons (ds_for c (di_seq (de_var c v_law_subsets_0)) (dg_name c l_law_subsets_2) (ds_one (ds_expr (de_extend (de_var c v_law_subsets_1) (de_lc false [("a", 3)] c (by decide +kernel) (by decide) (di_seq (de_var c v_law_subsets_1)) (fun _ c1 => (dg_name c1 (by decide +kernel))) (fun _ c1 => dts_nil) (fun _ c1 => (de_bin (op_qAdd false) (de_var c1 (by decide +kernel)) (de_tup (da_cons (de_var c1 (by decide +kernel)) da_nil)))))))))
  (ds_one (ds_ret (de_var c v_law_subsets_1)))))
theorem o_law_subsets  (T : Tx mg)  {f : Addr} {fd : FuncData} {sp : SpD} (Fu : Fun K "_law_subsets" "_law_subsets" s_law_subsets f fd) (hm : mg "_law_subsets" = some (.ref f)) (len : ∀ xs st Q, sp xs st Q → xs.length = 1) (sem : ∀ xs st Q, sp xs st Q → rd_law_subsets { nx := fun _ st' => Fg Q (.d .none) st', rt := Fg Q } (startD 4 xs) st) : Cl P w K mg base "_law_subsets" 1 sp :=
  ⟨f, fd, ["some"], hm, Fu.kp, fn_ok Fu S_law_subsets len (d_law_subsets T ) sem, Fu.binds fun _ _ _ _ _ _ us hl => match us, hl with | [_], _ => rfl⟩
/-! _law_lcm -/
abbrev s_law_lcm : Stmt := top 17
abbrev N_law_lcm : List Str := ["a", "b", "k"]
theorem S_law_lcm : FnScope N_law_lcm ["a", "b"] (defScope s_law_lcm) := ⟨rfl, rfl, rfl, by decide +kernel, rfl, by decide +kernel, by decide +kernel⟩
theorem v_law_lcm_0 : visB N_law_lcm (defScope s_law_lcm) 0 "a" = true := by decide +kernel
theorem g_law_lcm_len : glB (defScope s_law_lcm) "len" = true := by decide +kernel
theorem g_law_lcm_range : glB (defScope s_law_lcm) "range" = true := by decide +kernel
theorem g_law_lcm_tuple : glB (defScope s_law_lcm) "tuple" = true := by decide +kernel
set_option maxHeartbeats 4000000 in
theorem d_law_lcm  (T : Tx mg)  : ∀ X, Cok P w K mg base X N_law_lcm (defScope s_law_lcm) (defScope s_law_lcm) 0 → DSs X (defBody s_law_lcm) (rd_law_lcm) := fun X c =>
  (ds_one (ds_ret (de_ct c g_law_lcm_tuple T.b_tuple bt_tuple c_tuple (da_cons (de_lc false [("k", 2)] c (by decide +kernel) (by decide) (di_rng1 c g_law_lcm_range T.b_range (da_cons (de_cb c g_law_lcm_len T.b_len bb_len c_len (da_cons (de_var c v_law_lcm_0) da_nil)) da_nil)) (fun _ c1 => (dg_name c1 (by decide +kernel))) (fun _ c1 => dts_nil) (fun _ c1 => (de_cb c1 (by decide +kernel) T.b_max bb_max (c_max2 c1.calm) (da_cons (de_ix (de_var c1 (by decide +kernel)) (de_var c1 (by decide +kernel)) (fun _ _ => rfl)) (da_cons (de_ix (de_var c1 (by decide +kernel)) (de_var c1 (by decide +kernel)) (fun _ _ => rfl)) da_nil))))) da_nil))))
theorem o_law_lcm  (T : Tx mg)  {f : Addr} {fd : FuncData} {sp : SpD} (Fu : Fun K "_law_lcm" "_law_lcm" s_law_lcm f fd) (hm : mg "_law_lcm" = some (.ref f)) (len : ∀ xs st Q, sp xs st Q → xs.length = 2) (sem : ∀ xs st Q, sp xs st Q → rd_law_lcm { nx := fun _ st' => Fg Q (.d .none) st', rt := Fg Q } (startD 3 xs) st) : Cl P w K mg base "_law_lcm" 1 sp :=
  ⟨f, fd, ["a", "b"], hm, Fu.kp, fn_ok Fu S_law_lcm len (d_law_lcm T ) sem, Fu.binds fun _ _ _ _ _ _ us hl => match us, hl with | [_, _], _ => rfl⟩
/-! _law_lots -/
abbrev s_law_lots : Stmt := top 22
abbrev N_law_lots : List Str := ["n", "generators", "found", "lot", "one", "k"]
theorem S_law_lots : FnScope N_law_lots ["n", "generators"] (defScope s_law_lots) := ⟨rfl, rfl, rfl, by decide +kernel, rfl, by decide +kernel, by decide +kernel⟩
theorem v_law_lots_0 : visB N_law_lots (defScope s_law_lots) 0 "n" = true := by decide +kernel
theorem v_law_lots_1 : visB N_law_lots (defScope s_law_lots) 1 "generators" = true := by decide +kernel
theorem v_law_lots_2 : visB N_law_lots (defScope s_law_lots) 2 "found" = true := by decide +kernel
theorem l_law_lots_2 : locB N_law_lots (defScope s_law_lots) (defScope s_law_lots) 2 "found" = true := by decide +kernel
theorem v_law_lots_3 : visB N_law_lots (defScope s_law_lots) 3 "lot" = true := by decide +kernel
theorem l_law_lots_3 : locB N_law_lots (defScope s_law_lots) (defScope s_law_lots) 3 "lot" = true := by decide +kernel
theorem v_law_lots_4 : visB N_law_lots (defScope s_law_lots) 4 "one" = true := by decide +kernel
theorem l_law_lots_4 : locB N_law_lots (defScope s_law_lots) (defScope s_law_lots) 4 "one" = true := by decide +kernel
theorem v_law_lots_5 : visB N_law_lots (defScope s_law_lots) 5 "k" = true := by decide +kernel
theorem l_law_lots_5 : locB N_law_lots (defScope s_law_lots) (defScope s_law_lots) 5 "k" = true := by decide +kernel
theorem g_law_lots_len : glB (defScope s_law_lots) "len" = true := by decide +kernel
theorem g_law_lots_list : glB (defScope s_law_lots) "list" = true := by decide +kernel
theorem g_law_lots_range : glB (defScope s_law_lots) "range" = true := by decide +kernel
theorem g_law_lots_law_subsets : glB (defScope s_law_lots) "_law_subsets" = true := by decide +kernel
theorem g_law_lots_law_lcm : glB (defScope s_law_lots) "_law_lcm" = true := by decide +kernel
theorem g_law_lots_sorted : glB (defScope s_law_lots) "sorted" = true := by decide +kernel
theorem g_law_lots_set : glB (defScope s_law_lots) "set" = true := by decide +kernel
theorem g_law_lots_tuple : glB (defScope s_law_lots) "tuple" = true := by decide +kernel
set_option maxHeartbeats 4000000 in
theorem d_law_lots {sp_law_subsets : SpD} {sp_law_lcm : SpD} (T : Tx mg) (C_law_subsets : Cl P w K mg base "_law_subsets" 1 sp_law_subsets) (C_law_lcm : Cl P w K mg base "_law_lcm" 1 sp_law_lcm) : ∀ X, Cok P w K mg base X N_law_lots (defScope s_law_lots) (defScope s_law_lots) 1 → DSs X (defBody s_law_lots) (rd_law_lots sp_law_subsets sp_law_lcm) := fun X c =>
  (ds_cons (ds_asg c (de_lst true da_nil) (dg_name c l_law_lots_2) rfl rfl)
  (ds_cons (ds_for c (di_seq (de_callC c g_law_lots_law_subsets C_law_subsets (by decide) (da_cons (de_listRg false c g_law_lots_list T.b_list g_law_lots_range T.b_range (de_cb c g_law_lots_len T.b_len bb_len c_len (da_cons (de_var c v_law_lots_1) da_nil))) da_nil))) (dg_name c l_law_lots_3) (ds_cons (ds_asg c (de_bin (op_qMul false) (de_tup (da_cons de_int da_nil)) (de_var c v_law_lots_0)) (dg_name c l_law_lots_4) rfl rfl)
      (ds_cons (ds_for c (di_seq (de_var c v_law_lots_3)) (dg_name c l_law_lots_5) (ds_one (ds_asg c (de_callC c g_law_lots_law_lcm C_law_lcm (by decide) (da_cons (de_var c v_law_lots_4) (da_cons (de_ix (de_var c v_law_lots_1) (de_var c v_law_lots_5) (fun _ _ => rfl)) da_nil))) (dg_name c l_law_lots_4) rfl rfl)))
      (ds_one (ds_expr (de_append (de_var c v_law_lots_2) (de_var c v_law_lots_4)))))))
  (ds_one (ds_ret (de_ct c g_law_lots_tuple T.b_tuple bt_tuple c_tuple (da_cons (BS.de_sortB false c g_law_lots_sorted T.b_sorted g_law_lots_set T.b_set (de_var c v_law_lots_2)) da_nil))))))
theorem o_law_lots {sp_law_subsets : SpD} {sp_law_lcm : SpD} (T : Tx mg) (C_law_subsets : Cl P w K mg base "_law_subsets" 1 sp_law_subsets) (C_law_lcm : Cl P w K mg base "_law_lcm" 1 sp_law_lcm) {f : Addr} {fd : FuncData} {sp : SpD} (Fu : Fun K "_law_lots" "_law_lots" s_law_lots f fd) (hm : mg "_law_lots" = some (.ref f)) (len : ∀ xs st Q, sp xs st Q → xs.length = 2) (sem : ∀ xs st Q, sp xs st Q → rd_law_lots sp_law_subsets sp_law_lcm { nx := fun _ st' => Fg Q (.d .none) st', rt := Fg Q } (startD 6 xs) st) : Cl P w K mg base "_law_lots" 2 sp :=
  ⟨f, fd, ["n", "generators"], hm, Fu.kp, fn_ok Fu S_law_lots len (d_law_lots T C_law_subsets C_law_lcm) sem, Fu.binds fun _ _ _ _ _ _ us hl => match us, hl with | [_, _], _ => rfl⟩
/-! law -/
abbrev s_law : Stmt := top 23
abbrev N_law : List Str := ["script", "turn", "m", "n", "ideal", "told", "k", "fewer", "b"]
theorem S_law : FnScope N_law ["script"] (defScope s_law) := ⟨rfl, rfl, rfl, by decide +kernel, rfl, by decide +kernel, by decide +kernel⟩
theorem v_law_0 : visB N_law (defScope s_law) 0 "script" = true := by decide +kernel
theorem v_law_1 : visB N_law (defScope s_law) 1 "turn" = true := by decide +kernel
theorem l_law_1 : locB N_law (defScope s_law) (defScope s_law) 1 "turn" = true := by decide +kernel
theorem v_law_2 : visB N_law (defScope s_law) 2 "m" = true := by decide +kernel
theorem l_law_2 : locB N_law (defScope s_law) (defScope s_law) 2 "m" = true := by decide +kernel
theorem v_law_3 : visB N_law (defScope s_law) 3 "n" = true := by decide +kernel
theorem l_law_3 : locB N_law (defScope s_law) (defScope s_law) 3 "n" = true := by decide +kernel
theorem v_law_4 : visB N_law (defScope s_law) 4 "ideal" = true := by decide +kernel
theorem l_law_4 : locB N_law (defScope s_law) (defScope s_law) 4 "ideal" = true := by decide +kernel
theorem v_law_5 : visB N_law (defScope s_law) 5 "told" = true := by decide +kernel
theorem l_law_5 : locB N_law (defScope s_law) (defScope s_law) 5 "told" = true := by decide +kernel
theorem v_law_6 : visB N_law (defScope s_law) 6 "k" = true := by decide +kernel
theorem l_law_6 : locB N_law (defScope s_law) (defScope s_law) 6 "k" = true := by decide +kernel
theorem v_law_7 : visB N_law (defScope s_law) 7 "fewer" = true := by decide +kernel
theorem l_law_7 : locB N_law (defScope s_law) (defScope s_law) 7 "fewer" = true := by decide +kernel
theorem g_law_common_multiples : glB (defScope s_law) "common_multiples" = true := by decide +kernel
theorem g_law_len : glB (defScope s_law) "len" = true := by decide +kernel
theorem g_law_min : glB (defScope s_law) "min" = true := by decide +kernel
theorem g_law_max : glB (defScope s_law) "max" = true := by decide +kernel
theorem g_law_range : glB (defScope s_law) "range" = true := by decide +kernel
theorem g_law_law_begun : glB (defScope s_law) "_law_begun" = true := by decide +kernel
theorem g_law_law_draw : glB (defScope s_law) "_law_draw" = true := by decide +kernel
theorem g_law_law_of : glB (defScope s_law) "_law_of" = true := by decide +kernel
theorem g_law_law_ideal : glB (defScope s_law) "_law_ideal" = true := by decide +kernel
theorem g_law_isinstance : glB (defScope s_law) "isinstance" = true := by decide +kernel
theorem g_law_tuple : glB (defScope s_law) "tuple" = true := by decide +kernel
theorem g_law_law_lots : glB (defScope s_law) "_law_lots" = true := by decide +kernel
theorem g_law_law_lcm : glB (defScope s_law) "_law_lcm" = true := by decide +kernel
set_option maxHeartbeats 4000000 in
theorem d_law {sp_common_multiples : SpD} {sp_law_begun : SpD} {sp_law_draw : SpD} {sp_law_of : SpD} {sp_law_ideal : SpD} {sp_law_lots : SpD} {sp_law_lcm : SpD} (T : Tx mg) (C_common_multiples : Cl P w K mg base "common_multiples" 3 sp_common_multiples) (C_law_begun : Cl P w K mg base "_law_begun" 1 sp_law_begun) (C_law_draw : Cl P w K mg base "_law_draw" 1 sp_law_draw) (C_law_of : Cl P w K mg base "_law_of" 2 sp_law_of) (C_law_ideal : Cl P w K mg base "_law_ideal" 3 sp_law_ideal) (C_law_lots : Cl P w K mg base "_law_lots" 2 sp_law_lots) (C_law_lcm : Cl P w K mg base "_law_lcm" 1 sp_law_lcm) : ∀ X, Cok P w K mg base X N_law (defScope s_law) (defScope s_law) 3 → DSs X (defBody s_law) (rd_law sp_common_multiples sp_law_begun sp_law_draw sp_law_of sp_law_ideal sp_law_lots sp_law_lcm) := fun X c =>
  (ds_cons (ds_if (DW.pt (dw_or (dt_cp (op_qNe c.hu64) rfl (de_callC c g_law_common_multiples C_common_multiples (by decide) (da_cons (de_tup (da_cons de_int (da_cons (de_tup da_nil) da_nil))) da_nil)) (de_tup (da_cons (de_tup (da_cons de_int (da_cons de_int da_nil))) da_nil))) (dw_or1 (dt_cp (op_qNe c.hu64) rfl (de_callC c g_law_common_multiples C_common_multiples (by decide) (da_cons (de_tup (da_cons de_int (da_cons (de_tup (da_cons (de_tup (da_cons de_int (da_cons de_int (da_cons de_int da_nil)))) da_nil)) da_nil))) da_nil)) (de_tup (da_cons (de_tup (da_cons de_int (da_cons de_int (da_cons de_int da_nil)))) da_nil)))))) (ds_one (ds_ret de_bl)) ds_nil)
  (ds_cons (ds_for c (di_rng1 c g_law_range T.b_range (da_cons (de_cb c g_law_max T.b_max bb_max (c_max2 c.calm) (da_cons de_int (da_cons (de_cb c g_law_min T.b_min bb_min (c_min2 c.calm) (da_cons de_int (da_cons (de_cb c g_law_len T.b_len bb_len c_len (da_cons (de_var c v_law_0) da_nil)) da_nil))) da_nil))) da_nil)) (dg_name c l_law_1) (ds_cons (ds_asg c (de_callC c g_law_law_begun C_law_begun (by decide) (da_cons (de_var c v_law_0) (da_cons (de_var c v_law_1) da_nil))) (dg_name c l_law_2) rfl rfl)
      (ds_cons (ds_asg c (de_bin (op_qAdd false) de_int (de_callC c g_law_law_draw C_law_draw (by decide) (da_cons (de_var c v_law_2) (da_cons de_int da_nil)))) (dg_name c l_law_3) rfl rfl)
      (ds_cons (ds_asg c (de_callC c g_law_law_ideal C_law_ideal (by decide) (da_cons (de_var c v_law_2) (da_cons (de_var c v_law_3) (da_cons de_int (da_cons (de_callC c g_law_law_of C_law_of (by decide) (da_cons (de_var c v_law_2) (da_cons (de_lst false (da_cons de_int (da_cons de_int (da_cons de_int (da_cons de_int da_nil))))) da_nil))) da_nil))))) (dg_name c l_law_4) rfl rfl)
      (ds_cons (ds_asg c (de_callC c g_law_common_multiples C_common_multiples (by decide) (da_cons (de_var c v_law_4) da_nil)) (dg_name c l_law_5) rfl rfl)
      (ds_cons (ds_if (DW.pt (dw_or (dt_not (dt_val (de_isi c g_law_isinstance T.b_isinstance g_law_tuple T.b_tuple bt_tuple (de_var c v_law_5)))) (dw_or (dt_cp (op_qNe c.hu64) rfl (de_var c v_law_5) (de_callC c g_law_law_lots C_law_lots (by decide) (da_cons (de_var c v_law_3) (da_cons (de_ix (de_var c v_law_4) de_int (fun _ _ => rfl)) da_nil)))) (dw_or1 (dt_cp (op_qNe c.hu64) rfl (de_ix (de_var c v_law_5) de_int (fun _ _ => rfl)) (de_bin (op_qMul false) (de_tup (da_cons de_int da_nil)) (de_var c v_law_3))))))) (ds_one (ds_ret de_bl)) ds_nil)
      (ds_cons (ds_for c (di_rng1 c g_law_range T.b_range (da_cons de_int da_nil)) (dg_name c l_law_6) (ds_one (ds_if (dt_cp (op_qNotIn c.hu65) rfl (de_callC c g_law_law_lcm C_law_lcm (by decide) (da_cons (de_callC c g_law_law_of C_law_of (by decide) (da_cons (de_var c v_law_2) (da_cons (de_var c v_law_5) da_nil))) (da_cons (de_callC c g_law_law_of C_law_of (by decide) (da_cons (de_var c v_law_2) (da_cons (de_var c v_law_5) da_nil))) da_nil))) (de_var c v_law_5)) (ds_one (ds_ret de_bl)) ds_nil)))
      (ds_cons (ds_if (dt_cp (op_qNe c.hu64) rfl (de_ix (de_var c v_law_4) de_int (fun _ _ => rfl)) (de_tup da_nil)) (ds_cons (ds_asg c (de_callC c g_law_law_draw C_law_draw (by decide) (da_cons (de_var c v_law_2) (da_cons (de_cb c g_law_len T.b_len bb_len c_len (da_cons (de_ix (de_var c v_law_4) de_int (fun _ _ => rfl)) da_nil)) da_nil))) (dg_name c l_law_6) rfl rfl)
          (ds_cons (ds_asg c (de_callC c g_law_common_multiples C_common_multiples (by decide) (da_cons (de_tup (da_cons (de_var c v_law_3) (da_cons (de_bin (op_qAdd false) (de_sl false (de_ix (de_var c v_law_4) de_int (fun _ _ => rfl)) do_none (do_some (de_var c v_law_6))) (de_sl false (de_ix (de_var c v_law_4) de_int (fun _ _ => rfl)) (do_some (de_bin (op_qAdd false) (de_var c v_law_6) de_int)) do_none)) da_nil))) da_nil)) (dg_name c l_law_7) rfl rfl)
          (ds_one (ds_if (DW.pt (dw_or (dt_cp (op_qNe c.hu64) rfl (de_lc false [("b", 8)] c (by decide +kernel) (by decide) (di_seq (de_var c v_law_7)) (fun _ c1 => (dg_name c1 (by decide +kernel))) (fun _ c1 => (dts_one (dt_cp (op_qNotIn c1.hu65) rfl (de_var c1 (by decide +kernel)) (de_var c1 (by decide +kernel))))) (fun _ c1 => (de_var c1 (by decide +kernel)))) (de_lst false da_nil)) (dw_or1 (dt_cp (op_qNotIn c.hu65) rfl (de_ix (de_ix (de_var c v_law_4) de_int (fun _ _ => rfl)) (de_var c v_law_6) (fun _ _ => rfl)) (de_var c v_law_5))))) (ds_one (ds_ret de_bl)) ds_nil)))) ds_nil)
      (ds_one (ds_if (dt_cp (op_qNe c.hu64) rfl (de_callC c g_law_common_multiples C_common_multiples (by decide) (da_cons (de_var c v_law_4) da_nil)) (de_var c v_law_5)) (ds_one (ds_ret de_bl)) ds_nil))))))))))
  (ds_one (ds_ret de_bl))))
theorem o_law {sp_common_multiples : SpD} {sp_law_begun : SpD} {sp_law_draw : SpD} {sp_law_of : SpD} {sp_law_ideal : SpD} {sp_law_lots : SpD} {sp_law_lcm : SpD} (T : Tx mg) (C_common_multiples : Cl P w K mg base "common_multiples" 3 sp_common_multiples) (C_law_begun : Cl P w K mg base "_law_begun" 1 sp_law_begun) (C_law_draw : Cl P w K mg base "_law_draw" 1 sp_law_draw) (C_law_of : Cl P w K mg base "_law_of" 2 sp_law_of) (C_law_ideal : Cl P w K mg base "_law_ideal" 3 sp_law_ideal) (C_law_lots : Cl P w K mg base "_law_lots" 2 sp_law_lots) (C_law_lcm : Cl P w K mg base "_law_lcm" 1 sp_law_lcm) {f : Addr} {fd : FuncData} {sp : SpD} (Fu : Fun K "law" "law" s_law f fd) (hm : mg "law" = some (.ref f)) (len : ∀ xs st Q, sp xs st Q → xs.length = 1) (sem : ∀ xs st Q, sp xs st Q → rd_law sp_common_multiples sp_law_begun sp_law_draw sp_law_of sp_law_ideal sp_law_lots sp_law_lcm { nx := fun _ st' => Fg Q (.d .none) st', rt := Fg Q } (startD 9 xs) st) : Cl P w K mg base "law" 4 sp :=
  ⟨f, fd, ["script"], hm, Fu.kp, fn_ok Fu S_law len (d_law T C_common_multiples C_law_begun C_law_draw C_law_of C_law_ideal C_law_lots C_law_lcm) sem, Fu.binds fun _ _ _ _ _ _ us hl => match us, hl with | [_], _ => rfl⟩
end
/-! assembly: needs sp_F, len_F, sem_F of every def -/
open U UC
theorem all_mk {l : PySem.W.OpenLaw} {w : World} {K : PySem.W.Frag} {h : Heap} {mg : Str → Option Value} {fa : Addr} (X : K.In h) (G : h.Ns mainGlobals mg) (hfa : mg "law" = some (.ref fa))
    {f_law_begun : Addr} {od_law_begun an_law_begun : Option Addr} {sl_law_begun : Array (Option Value)} {oc_law_begun kV_law_begun dc_law_begun pm_law_begun cd_law_begun ct_law_begun : Value}
    (a_law_begun : PySem.W.nsIn K mainGlobals "_law_begun" = some (some (.ref f_law_begun))) (l_law_begun : K.lookup f_law_begun = some ⟨oc_law_begun, od_law_begun, .func (PySem.W.fnOf "_law_begun" "_law_begun" (defArgs s_law_begun) (defBody s_law_begun) (defScope s_law_begun) .none kV_law_begun dc_law_begun pm_law_begun an_law_begun cd_law_begun ct_law_begun), sl_law_begun⟩) (cc_law_begun : PySem.W.codeIn K cd_law_begun "_law_begun" = true) (k_law_begun : PySem.W.keepIn K (.ref f_law_begun) = true)
    {f_law_draw : Addr} {od_law_draw an_law_draw : Option Addr} {sl_law_draw : Array (Option Value)} {oc_law_draw kV_law_draw dc_law_draw pm_law_draw cd_law_draw ct_law_draw : Value}
    (a_law_draw : PySem.W.nsIn K mainGlobals "_law_draw" = some (some (.ref f_law_draw))) (l_law_draw : K.lookup f_law_draw = some ⟨oc_law_draw, od_law_draw, .func (PySem.W.fnOf "_law_draw" "_law_draw" (defArgs s_law_draw) (defBody s_law_draw) (defScope s_law_draw) .none kV_law_draw dc_law_draw pm_law_draw an_law_draw cd_law_draw ct_law_draw), sl_law_draw⟩) (cc_law_draw : PySem.W.codeIn K cd_law_draw "_law_draw" = true) (k_law_draw : PySem.W.keepIn K (.ref f_law_draw) = true)
    {f_law_monomial : Addr} {od_law_monomial an_law_monomial : Option Addr} {sl_law_monomial : Array (Option Value)} {oc_law_monomial kV_law_monomial dc_law_monomial pm_law_monomial cd_law_monomial ct_law_monomial : Value}
    (a_law_monomial : PySem.W.nsIn K mainGlobals "_law_monomial" = some (some (.ref f_law_monomial))) (l_law_monomial : K.lookup f_law_monomial = some ⟨oc_law_monomial, od_law_monomial, .func (PySem.W.fnOf "_law_monomial" "_law_monomial" (defArgs s_law_monomial) (defBody s_law_monomial) (defScope s_law_monomial) .none kV_law_monomial dc_law_monomial pm_law_monomial an_law_monomial cd_law_monomial ct_law_monomial), sl_law_monomial⟩) (cc_law_monomial : PySem.W.codeIn K cd_law_monomial "_law_monomial" = true) (k_law_monomial : PySem.W.keepIn K (.ref f_law_monomial) = true)
    {f_law_divides : Addr} {od_law_divides an_law_divides : Option Addr} {sl_law_divides : Array (Option Value)} {oc_law_divides kV_law_divides dc_law_divides pm_law_divides cd_law_divides ct_law_divides : Value}
    (a_law_divides : PySem.W.nsIn K mainGlobals "_law_divides" = some (some (.ref f_law_divides))) (l_law_divides : K.lookup f_law_divides = some ⟨oc_law_divides, od_law_divides, .func (PySem.W.fnOf "_law_divides" "_law_divides" (defArgs s_law_divides) (defBody s_law_divides) (defScope s_law_divides) .none kV_law_divides dc_law_divides pm_law_divides an_law_divides cd_law_divides ct_law_divides), sl_law_divides⟩) (cc_law_divides : PySem.W.codeIn K cd_law_divides "_law_divides" = true) (k_law_divides : PySem.W.keepIn K (.ref f_law_divides) = true)
    {f_law_least : Addr} {od_law_least an_law_least : Option Addr} {sl_law_least : Array (Option Value)} {oc_law_least kV_law_least dc_law_least pm_law_least cd_law_least ct_law_least : Value}
    (a_law_least : PySem.W.nsIn K mainGlobals "_law_least" = some (some (.ref f_law_least))) (l_law_least : K.lookup f_law_least = some ⟨oc_law_least, od_law_least, .func (PySem.W.fnOf "_law_least" "_law_least" (defArgs s_law_least) (defBody s_law_least) (defScope s_law_least) .none kV_law_least dc_law_least pm_law_least an_law_least cd_law_least ct_law_least), sl_law_least⟩) (cc_law_least : PySem.W.codeIn K cd_law_least "_law_least" = true) (k_law_least : PySem.W.keepIn K (.ref f_law_least) = true)
    {f_law_ideal : Addr} {od_law_ideal an_law_ideal : Option Addr} {sl_law_ideal : Array (Option Value)} {oc_law_ideal kV_law_ideal dc_law_ideal pm_law_ideal cd_law_ideal ct_law_ideal : Value}
    (a_law_ideal : PySem.W.nsIn K mainGlobals "_law_ideal" = some (some (.ref f_law_ideal))) (l_law_ideal : K.lookup f_law_ideal = some ⟨oc_law_ideal, od_law_ideal, .func (PySem.W.fnOf "_law_ideal" "_law_ideal" (defArgs s_law_ideal) (defBody s_law_ideal) (defScope s_law_ideal) .none kV_law_ideal dc_law_ideal pm_law_ideal an_law_ideal cd_law_ideal ct_law_ideal), sl_law_ideal⟩) (cc_law_ideal : PySem.W.codeIn K cd_law_ideal "_law_ideal" = true) (k_law_ideal : PySem.W.keepIn K (.ref f_law_ideal) = true)
    {f_want_small : Addr} {od_want_small an_want_small : Option Addr} {sl_want_small : Array (Option Value)} {oc_want_small kV_want_small dc_want_small pm_want_small cd_want_small ct_want_small : Value}
    (a_want_small : PySem.W.nsIn K mainGlobals "want_small" = some (some (.ref f_want_small))) (l_want_small : K.lookup f_want_small = some ⟨oc_want_small, od_want_small, .func (PySem.W.fnOf "want_small" "want_small" (defArgs s_want_small) (defBody s_want_small) (defScope s_want_small) .none kV_want_small dc_want_small pm_want_small an_want_small cd_want_small ct_want_small), sl_want_small⟩) (cc_want_small : PySem.W.codeIn K cd_want_small "want_small" = true) (k_want_small : PySem.W.keepIn K (.ref f_want_small) = true)
    {f_lcm_of : Addr} {od_lcm_of an_lcm_of : Option Addr} {sl_lcm_of : Array (Option Value)} {oc_lcm_of kV_lcm_of dc_lcm_of pm_lcm_of cd_lcm_of ct_lcm_of : Value}
    (a_lcm_of : PySem.W.nsIn K mainGlobals "lcm_of" = some (some (.ref f_lcm_of))) (l_lcm_of : K.lookup f_lcm_of = some ⟨oc_lcm_of, od_lcm_of, .func (PySem.W.fnOf "lcm_of" "lcm_of" (defArgs s_lcm_of) (defBody s_lcm_of) (defScope s_lcm_of) .none kV_lcm_of dc_lcm_of pm_lcm_of an_lcm_of cd_lcm_of ct_lcm_of), sl_lcm_of⟩) (cc_lcm_of : PySem.W.codeIn K cd_lcm_of "lcm_of" = true) (k_lcm_of : PySem.W.keepIn K (.ref f_lcm_of) = true)
    {f_multiples_of : Addr} {od_multiples_of an_multiples_of : Option Addr} {sl_multiples_of : Array (Option Value)} {oc_multiples_of kV_multiples_of dc_multiples_of pm_multiples_of cd_multiples_of ct_multiples_of : Value}
    (a_multiples_of : PySem.W.nsIn K mainGlobals "multiples_of" = some (some (.ref f_multiples_of))) (l_multiples_of : K.lookup f_multiples_of = some ⟨oc_multiples_of, od_multiples_of, .func (PySem.W.fnOf "multiples_of" "multiples_of" (defArgs s_multiples_of) (defBody s_multiples_of) (defScope s_multiples_of) .none kV_multiples_of dc_multiples_of pm_multiples_of an_multiples_of cd_multiples_of ct_multiples_of), sl_multiples_of⟩) (cc_multiples_of : PySem.W.codeIn K cd_multiples_of "multiples_of" = true) (k_multiples_of : PySem.W.keepIn K (.ref f_multiples_of) = true)
    {f_common_multiples : Addr} {od_common_multiples an_common_multiples : Option Addr} {sl_common_multiples : Array (Option Value)} {oc_common_multiples kV_common_multiples dc_common_multiples pm_common_multiples cd_common_multiples ct_common_multiples : Value}
    (a_common_multiples : PySem.W.nsIn K mainGlobals "common_multiples" = some (some (.ref f_common_multiples))) (l_common_multiples : K.lookup f_common_multiples = some ⟨oc_common_multiples, od_common_multiples, .func (PySem.W.fnOf "common_multiples" "common_multiples" (defArgs s_common_multiples) (defBody s_common_multiples) (defScope s_common_multiples) .none kV_common_multiples dc_common_multiples pm_common_multiples an_common_multiples cd_common_multiples ct_common_multiples), sl_common_multiples⟩) (cc_common_multiples : PySem.W.codeIn K cd_common_multiples "common_multiples" = true) (k_common_multiples : PySem.W.keepIn K (.ref f_common_multiples) = true)
    {f_law_of : Addr} {od_law_of an_law_of : Option Addr} {sl_law_of : Array (Option Value)} {oc_law_of kV_law_of dc_law_of pm_law_of cd_law_of ct_law_of : Value}
    (a_law_of : PySem.W.nsIn K mainGlobals "_law_of" = some (some (.ref f_law_of))) (l_law_of : K.lookup f_law_of = some ⟨oc_law_of, od_law_of, .func (PySem.W.fnOf "_law_of" "_law_of" (defArgs s_law_of) (defBody s_law_of) (defScope s_law_of) .none kV_law_of dc_law_of pm_law_of an_law_of cd_law_of ct_law_of), sl_law_of⟩) (cc_law_of : PySem.W.codeIn K cd_law_of "_law_of" = true) (k_law_of : PySem.W.keepIn K (.ref f_law_of) = true)
    {f_law_subsets : Addr} {od_law_subsets an_law_subsets : Option Addr} {sl_law_subsets : Array (Option Value)} {oc_law_subsets kV_law_subsets dc_law_subsets pm_law_subsets cd_law_subsets ct_law_subsets : Value}
    (a_law_subsets : PySem.W.nsIn K mainGlobals "_law_subsets" = some (some (.ref f_law_subsets))) (l_law_subsets : K.lookup f_law_subsets = some ⟨oc_law_subsets, od_law_subsets, .func (PySem.W.fnOf "_law_subsets" "_law_subsets" (defArgs s_law_subsets) (defBody s_law_subsets) (defScope s_law_subsets) .none kV_law_subsets dc_law_subsets pm_law_subsets an_law_subsets cd_law_subsets ct_law_subsets), sl_law_subsets⟩) (cc_law_subsets : PySem.W.codeIn K cd_law_subsets "_law_subsets" = true) (k_law_subsets : PySem.W.keepIn K (.ref f_law_subsets) = true)
    {f_law_lcm : Addr} {od_law_lcm an_law_lcm : Option Addr} {sl_law_lcm : Array (Option Value)} {oc_law_lcm kV_law_lcm dc_law_lcm pm_law_lcm cd_law_lcm ct_law_lcm : Value}
    (a_law_lcm : PySem.W.nsIn K mainGlobals "_law_lcm" = some (some (.ref f_law_lcm))) (l_law_lcm : K.lookup f_law_lcm = some ⟨oc_law_lcm, od_law_lcm, .func (PySem.W.fnOf "_law_lcm" "_law_lcm" (defArgs s_law_lcm) (defBody s_law_lcm) (defScope s_law_lcm) .none kV_law_lcm dc_law_lcm pm_law_lcm an_law_lcm cd_law_lcm ct_law_lcm), sl_law_lcm⟩) (cc_law_lcm : PySem.W.codeIn K cd_law_lcm "_law_lcm" = true) (k_law_lcm : PySem.W.keepIn K (.ref f_law_lcm) = true)
    {f_law_lots : Addr} {od_law_lots an_law_lots : Option Addr} {sl_law_lots : Array (Option Value)} {oc_law_lots kV_law_lots dc_law_lots pm_law_lots cd_law_lots ct_law_lots : Value}
    (a_law_lots : PySem.W.nsIn K mainGlobals "_law_lots" = some (some (.ref f_law_lots))) (l_law_lots : K.lookup f_law_lots = some ⟨oc_law_lots, od_law_lots, .func (PySem.W.fnOf "_law_lots" "_law_lots" (defArgs s_law_lots) (defBody s_law_lots) (defScope s_law_lots) .none kV_law_lots dc_law_lots pm_law_lots an_law_lots cd_law_lots ct_law_lots), sl_law_lots⟩) (cc_law_lots : PySem.W.codeIn K cd_law_lots "_law_lots" = true) (k_law_lots : PySem.W.keepIn K (.ref f_law_lots) = true)
    {f_law : Addr} {od_law an_law : Option Addr} {sl_law : Array (Option Value)} {oc_law kV_law dc_law pm_law cd_law ct_law : Value}
    (a_law : PySem.W.nsIn K mainGlobals "law" = some (some (.ref f_law))) (l_law : K.lookup f_law = some ⟨oc_law, od_law, .func (PySem.W.fnOf "law" "law" (defArgs s_law) (defBody s_law) (defScope s_law) .none kV_law dc_law pm_law an_law cd_law ct_law), sl_law⟩) (cc_law : PySem.W.codeIn K cd_law "law" = true) (k_law : PySem.W.keepIn K (.ref f_law) = true)
    (z_int : PySem.W.nsIn K mainGlobals "int" = some none)
    (z_isinstance : PySem.W.nsIn K mainGlobals "isinstance" = some none)
    (z_len : PySem.W.nsIn K mainGlobals "len" = some none)
    (z_list : PySem.W.nsIn K mainGlobals "list" = some none)
    (z_max : PySem.W.nsIn K mainGlobals "max" = some none)
    (z_min : PySem.W.nsIn K mainGlobals "min" = some none)
    (z_range : PySem.W.nsIn K mainGlobals "range" = some none)
    (z_set : PySem.W.nsIn K mainGlobals "set" = some none)
    (z_sorted : PySem.W.nsIn K mainGlobals "sorted" = some none)
    (z_sum : PySem.W.nsIn K mainGlobals "sum" = some none)
    (z_tuple : PySem.W.nsIn K mainGlobals "tuple" = some none)
    (z_zip : PySem.W.nsIn K mainGlobals "zip" = some none)
    {t_SMALL_GENERATORS : Tok} (y_SMALL_GENERATORS : PySem.W.nsIn K mainGlobals "SMALL_GENERATORS" = some (some (.int 10 t_SMALL_GENERATORS)))
    {t_SMALL_VARIABLES : Tok} (y_SMALL_VARIABLES : PySem.W.nsIn K mainGlobals "SMALL_VARIABLES" = some (some (.int 8 t_SMALL_VARIABLES))) :
    ∃ fd : FuncData, (∀ (s : Shared) (v : Value), BindsTo s fd ⟨[v], []⟩ [("script", v)]) ∧ ∀ base : Heap, K.In base → base.Ns mainGlobals mg → FnOk l.prog w K mg base CX0 4 fa fd ["script"] (hsp K sp_law) := by
  have e := hfa.symm.trans (PySem.W.mg_of X G a_law)
  cases e
  have T : Tx mg := ⟨PySem.W.mg_none_of X G z_int, PySem.W.mg_none_of X G z_isinstance, PySem.W.mg_none_of X G z_len, PySem.W.mg_none_of X G z_list, PySem.W.mg_none_of X G z_max, PySem.W.mg_none_of X G z_min, PySem.W.mg_none_of X G z_range, PySem.W.mg_none_of X G z_set, PySem.W.mg_none_of X G z_sorted, PySem.W.mg_none_of X G z_sum, PySem.W.mg_none_of X G z_tuple, PySem.W.mg_none_of X G z_zip, ⟨_, PySem.W.mg_of X G y_SMALL_GENERATORS⟩, ⟨_, PySem.W.mg_of X G y_SMALL_VARIABLES⟩⟩
  refine ⟨PySem.W.fnOf "law" "law" (defArgs s_law) (defBody s_law) (defScope s_law) .none kV_law dc_law pm_law an_law cd_law ct_law, fun s v => .of_eq rfl, fun base _ _ => ?_⟩
  have C_law_begun : Cl l.prog w K mg base "_law_begun" 1 sp_law_begun := o_law_begun T  (fun_mk (st := s_law_begun) l_law_begun cc_law_begun k_law_begun) (PySem.W.mg_of X G a_law_begun) len_law_begun sem_law_begun
  have C_law_draw : Cl l.prog w K mg base "_law_draw" 1 sp_law_draw := o_law_draw T  (fun_mk (st := s_law_draw) l_law_draw cc_law_draw k_law_draw) (PySem.W.mg_of X G a_law_draw) len_law_draw sem_law_draw
  have C_law_monomial : Cl l.prog w K mg base "_law_monomial" 2 sp_law_monomial := o_law_monomial T C_law_draw (fun_mk (st := s_law_monomial) l_law_monomial cc_law_monomial k_law_monomial) (PySem.W.mg_of X G a_law_monomial) len_law_monomial sem_law_monomial
  have C_law_divides : Cl l.prog w K mg base "_law_divides" 1 sp_law_divides := o_law_divides T  (fun_mk (st := s_law_divides) l_law_divides cc_law_divides k_law_divides) (PySem.W.mg_of X G a_law_divides) len_law_divides sem_law_divides
  have C_law_least : Cl l.prog w K mg base "_law_least" 2 sp_law_least := o_law_least T C_law_divides (fun_mk (st := s_law_least) l_law_least cc_law_least k_law_least) (PySem.W.mg_of X G a_law_least) len_law_least sem_law_least
  have C_law_ideal : Cl l.prog w K mg base "_law_ideal" 3 sp_law_ideal := o_law_ideal T C_law_draw C_law_monomial C_law_least (fun_mk (st := s_law_ideal) l_law_ideal cc_law_ideal k_law_ideal) (PySem.W.mg_of X G a_law_ideal) len_law_ideal sem_law_ideal
  have C_want_small : Cl l.prog w K mg base "want_small" 1 sp_want_small := o_want_small T  (fun_mk (st := s_want_small) l_want_small cc_want_small k_want_small) (PySem.W.mg_of X G a_want_small) len_want_small sem_want_small
  have C_lcm_of : Cl l.prog w K mg base "lcm_of" 1 sp_lcm_of := o_lcm_of T  (fun_mk (st := s_lcm_of) l_lcm_of cc_lcm_of k_lcm_of) (PySem.W.mg_of X G a_lcm_of) len_lcm_of sem_lcm_of
  have C_multiples_of : Cl l.prog w K mg base "multiples_of" 2 sp_multiples_of := o_multiples_of T C_lcm_of (fun_mk (st := s_multiples_of) l_multiples_of cc_multiples_of k_multiples_of) (PySem.W.mg_of X G a_multiples_of) len_multiples_of sem_multiples_of
  have C_common_multiples : Cl l.prog w K mg base "common_multiples" 3 sp_common_multiples := o_common_multiples T C_want_small C_multiples_of (fun_mk (st := s_common_multiples) l_common_multiples cc_common_multiples k_common_multiples) (PySem.W.mg_of X G a_common_multiples) len_common_multiples sem_common_multiples
  have C_law_of : Cl l.prog w K mg base "_law_of" 2 sp_law_of := o_law_of T C_law_draw (fun_mk (st := s_law_of) l_law_of cc_law_of k_law_of) (PySem.W.mg_of X G a_law_of) len_law_of sem_law_of
  have C_law_subsets : Cl l.prog w K mg base "_law_subsets" 1 sp_law_subsets := o_law_subsets T  (fun_mk (st := s_law_subsets) l_law_subsets cc_law_subsets k_law_subsets) (PySem.W.mg_of X G a_law_subsets) len_law_subsets sem_law_subsets
  have C_law_lcm : Cl l.prog w K mg base "_law_lcm" 1 sp_law_lcm := o_law_lcm T  (fun_mk (st := s_law_lcm) l_law_lcm cc_law_lcm k_law_lcm) (PySem.W.mg_of X G a_law_lcm) len_law_lcm sem_law_lcm
  have C_law_lots : Cl l.prog w K mg base "_law_lots" 2 sp_law_lots := o_law_lots T C_law_subsets C_law_lcm (fun_mk (st := s_law_lots) l_law_lots cc_law_lots k_law_lots) (PySem.W.mg_of X G a_law_lots) len_law_lots sem_law_lots
  exact fn_ok (fun_mk (st := s_law) l_law cc_law k_law) S_law len_law (d_law T C_common_multiples C_law_begun C_law_draw C_law_of C_law_ideal C_law_lots C_law_lcm) sem_law
theorem walk {l : PySem.W.OpenLaw} {q : Program} {loose : List Str} {XP : (Str → Option Value) → Heap → Prop} {YP : World → Heap → Prop} {d : DefRec} {K : Params → PySem.W.Frag} (hn : l.most = some 63) (hdf : d.params.defaults = [])
    (hY : ∀ (w : World) (h : Heap), YP w h → (K w.params).In h)
    (F : ∀ (w : World) (mg : Str → Option Value) (fa : Addr) (h : Heap), (K w.params).In h → h.Ns mainGlobals mg → mg d.name = some (.ref fa) →
      ∃ fd : FuncData, (∀ (s : Shared) (u : Value), BindsTo s fd ⟨[u], []⟩ [("script", u)]) ∧ ∀ base : Heap, (K w.params).In base → base.Ns mainGlobals mg → FnOk l.prog w (K w.params) mg base CX0 4 fa fd ["script"] (hsp (K w.params) sp_law)) :
    PySem.W.WalkO q loose XP YP l.row.toRowW d [] (fun f vs => PySem.call f vs) :=
  L2.walk_of (n := 63) (k := 4) (x := "script") (CX := fun _ => CX0) (sp := fun w => hsp (K w.params) sp_law) hn (by decide) hdf ⟨rfl, by decide, by decide⟩ hY F (fun w H a ns hl hb hS => law_start U.law_true hl hb hS) fun _ _ _ _ _ z => z
end GD
open PySem PySem.W PyProof.Rows in
set_option maxRecDepth 100000 in
set_option maxHeartbeats 0 in
theorem PySem.Challenge.cw_jointneeds_k40_common_multiples_holds : PySem.Challenge.rw_jointneeds_k40_common_multiples.Holds := by
  w_on; o_law; k_head; (case hw => w_witness2)
  k_fill
  refine GD.walk (l := PySem.Challenge.rw_jointneeds_k40_common_multiples) rfl rfl (fun w h Y => PySem.W.kIn_of Y) ?F
  case F =>
    intro w mg fa h KX G hmg
    refine' GD.all_mk KX G hmg ?a_law_begun ?l_law_begun ?cc_law_begun ?k_law_begun ?a_law_draw ?l_law_draw ?cc_law_draw ?k_law_draw ?a_law_monomial ?l_law_monomial ?cc_law_monomial ?k_law_monomial ?a_law_divides ?l_law_divides ?cc_law_divides ?k_law_divides ?a_law_least ?l_law_least ?cc_law_least ?k_law_least ?a_law_ideal ?l_law_ideal ?cc_law_ideal ?k_law_ideal ?a_want_small ?l_want_small ?cc_want_small ?k_want_small ?a_lcm_of ?l_lcm_of ?cc_lcm_of ?k_lcm_of ?a_multiples_of ?l_multiples_of ?cc_multiples_of ?k_multiples_of ?a_common_multiples ?l_common_multiples ?cc_common_multiples ?k_common_multiples ?a_law_of ?l_law_of ?cc_law_of ?k_law_of ?a_law_subsets ?l_law_subsets ?cc_law_subsets ?k_law_subsets ?a_law_lcm ?l_law_lcm ?cc_law_lcm ?k_law_lcm ?a_law_lots ?l_law_lots ?cc_law_lots ?k_law_lots ?a_law ?l_law ?cc_law ?k_law ?z_int ?z_isinstance ?z_len ?z_list ?z_max ?z_min ?z_range ?z_set ?z_sorted ?z_sum ?z_tuple ?z_zip ?y_SMALL_GENERATORS ?y_SMALL_VARIABLES
    (case a_law_begun => k_is)
    (case l_law_begun => k_is)
    (case cc_law_begun => k_is)
    (case k_law_begun => k_is)
    (case a_law_draw => k_is)
    (case l_law_draw => k_is)
    (case cc_law_draw => k_is)
    (case k_law_draw => k_is)
    (case a_law_monomial => k_is)
    (case l_law_monomial => k_is)
    (case cc_law_monomial => k_is)
    (case k_law_monomial => k_is)
    (case a_law_divides => k_is)
    (case l_law_divides => k_is)
    (case cc_law_divides => k_is)
    (case k_law_divides => k_is)
    (case a_law_least => k_is)
    (case l_law_least => k_is)
    (case cc_law_least => k_is)
    (case k_law_least => k_is)
    (case a_law_ideal => k_is)
    (case l_law_ideal => k_is)
    (case cc_law_ideal => k_is)
    (case k_law_ideal => k_is)
    (case a_want_small => k_is)
    (case l_want_small => k_is)
    (case cc_want_small => k_is)
    (case k_want_small => k_is)
    (case a_lcm_of => k_is)
    (case l_lcm_of => k_is)
    (case cc_lcm_of => k_is)
    (case k_lcm_of => k_is)
    (case a_multiples_of => k_is)
    (case l_multiples_of => k_is)
    (case cc_multiples_of => k_is)
    (case k_multiples_of => k_is)
    (case a_common_multiples => k_is)
    (case l_common_multiples => k_is)
    (case cc_common_multiples => k_is)
    (case k_common_multiples => k_is)
    (case a_law_of => k_is)
    (case l_law_of => k_is)
    (case cc_law_of => k_is)
    (case k_law_of => k_is)
    (case a_law_subsets => k_is)
    (case l_law_subsets => k_is)
    (case cc_law_subsets => k_is)
    (case k_law_subsets => k_is)
    (case a_law_lcm => k_is)
    (case l_law_lcm => k_is)
    (case cc_law_lcm => k_is)
    (case k_law_lcm => k_is)
    (case a_law_lots => k_is)
    (case l_law_lots => k_is)
    (case cc_law_lots => k_is)
    (case k_law_lots => k_is)
    (case a_law => k_is)
    (case l_law => k_is)
    (case cc_law => k_is)
    (case k_law => k_is)
    (case z_int => k_is)
    (case z_isinstance => k_is)
    (case z_len => k_is)
    (case z_list => k_is)
    (case z_max => k_is)
    (case z_min => k_is)
    (case z_range => k_is)
    (case z_set => k_is)
    (case z_sorted => k_is)
    (case z_sum => k_is)
    (case z_tuple => k_is)
    (case z_zip => k_is)
    (case y_SMALL_GENERATORS => k_is)
    (case y_SMALL_VARIABLES => k_is)
end
