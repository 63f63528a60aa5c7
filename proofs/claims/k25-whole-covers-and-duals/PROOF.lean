import PyProof.Rows.All
import Wide.All
import OpenK.AllK
import Wide.FinOn
import HandS.ForMost
import HandS.Wide
import HandS.TupMul
import HandS.IsInst
import HandS.Deep
import HandS.Flow
import HandS.Style
import HandS.TupAny
import HandS.Zip
import KE.GoesMore
import KE.KTupSum
import HandS.TupSets
import KE.DatumOrd
import HandS.Gcd
import KE.KMathGC
import HandS.Conv
import HandS.Strs
import KE.SortData
import KE.LtData
import KE.LtSeq
import PyProof.P3In
import PyProof.Rows.TupDisplay
import HandS.DictTup
import HandS.Iter
import HandS.SortKw
import PyProof.Rows.NestShow
import HandS.SetFor
import HandS.Set
import PyProof.ZipIter
import PyProof.CallType
import PyProof.Walk
import PyProof.WalkLemmas
import PyProof.RangeIter
import PyProof.RulesTry
import HandS.RepeatKit
import PyProof.Rows.RegRepr
import PySem.Challenge.RW_jointneeds_k25_whole_covers_and_duals
section
set_option Elab.async false
set_option linter.all false
set_option pp.maxSteps 200
set_option maxRecDepth 100000
set_option maxHeartbeats 0
open PySem PySem.W PyProof.Rows
open_top head_k25 for PySem.Challenge.rw_jointneeds_k25_whole_covers_and_duals
end
section
set_option Elab.async false
set_option linter.all false
set_option maxRecDepth 100000
set_option maxHeartbeats 2000000
namespace DL
open PySem L2 PyProof.Rows
inductive DV where
  | d (x : PyData)
  | r (a : Addr)
  | t (xs : List DV)
inductive MO where
  | lst (xs : List DV)
  | dK (kvs : List (Key × DV))
  | dT (kvs : List (List Key × DV))
  | ins (C : Addr) (fs : List (Str × DV))
  | lk (o : Obj) (ws : List (List Key × V)) (kvs : List (List Key × DV))
abbrev Sto := Addr → Option MO
abbrev Env := List (Option DV)
def up (s : Sto) (a : Addr) (m : MO) : Sto := fun b => if b = a then some m else s b
theorem up_same {s : Sto} {a : Addr} {m : MO} : up s a m a = some m := if_pos rfl
theorem up_ne {s : Sto} {a b : Addr} {m : MO} (h : b ≠ a) : up s a m b = s b := if_neg h
section
variable (K : PySem.W.Frag)
mutual
inductive Rp (F : Hp) : V → PyData → Prop
  | non : Rp F .non .none
  | bl (b : Bool) : Rp F (.bl b) (.bool b)
  | int (i : Int) : Rp F (.int i) (.int i)
  | str (x : Str) : Rp F (.str x) (.str x)
  | lst {a : Addr} {xs : List V} {ds : List PyData} : SqL K F a xs → RpAll F xs ds → Rp F (.ref a) (.list ds)
  | tup {a : Addr} {xs : List V} {ds : List PyData} : F a = some (.tup xs) → RpAll F xs ds → Rp F (.ref a) (.tuple ds)
inductive RpAll (F : Hp) : List V → List PyData → Prop
  | nil : RpAll F [] []
  | cons {v : V} {vs : List V} {d : PyData} {ds : List PyData} : Rp F v d → RpAll F vs ds → RpAll F (v :: vs) (d :: ds)
end
mutual
inductive RV (F : Hp) : V → DV → Prop
  | d {v : V} {x : PyData} : Rp K F v x → RV F v (.d x)
  | r (a : Addr) : RV F (.ref a) (.r a)
  | t {a : Addr} {vs : List V} {xs : List DV} : F a = some (.tup vs) → RVs F vs xs → RV F (.ref a) (.t xs)
inductive RVs (F : Hp) : List V → List DV → Prop
  | nil : RVs F [] []
  | cons {v : V} {vs : List V} {x : DV} {xs : List DV} : RV F v x → RVs F vs xs → RVs F (v :: vs) (x :: xs)
end
def MOk (F H : Hp) (a : Addr) : MO → Prop
  | .lst xs => ∃ vs, H a = some (.lst vs) ∧ RVs K F vs xs
  | .dK kvs => ∃ ws, H a = some (.dK ws) ∧ Paired (fun p q => p.1 = q.1 ∧ RV K F p.2 q.2) ws kvs
  | .dT kvs => ∃ ws, H a = some (.dT ws) ∧ Paired (fun p q => p.1 = q.1 ∧ RV K F p.2 q.2) ws kvs
  | .ins C fs => ∃ dx ws, H a = some (.ins C dx ws) ∧ Paired (fun p q => p.1 = q.1 ∧ RV K F p.2 q.2) ws fs
  | .lk o ws kvs => H a = some (.frz o (.dT ws)) ∧ Paired (fun p q => p.1 = q.1 ∧ RV K F p.2 q.2) ws kvs
structure Rs (F H : Hp) (st : Sto) : Prop where
  sub : ∀ a o, F a = some o → H a = some o ∧ st a = none
  ok : ∀ a m, st a = some m → MOk K F H a m
def RE (F : Hp) (σ : L2.St) (ε : Env) : Prop := σ.length = ε.length ∧ ∀ (i : Nat) (x : DV), ε[i]? = some (some x) → ∃ v, σ[i]? = some (some v) ∧ RV K F v x
end
structure Step (F H : Hp) (st : Sto) (F' H' : Hp) (st' : Sto) : Prop where
  ex : ∀ a o, F a = some o → F' a = some o
  pres : ∀ a o, H a = some o → st a = none → H' a = some o ∧ st' a = none
  fnew : ∀ a o, F' a = some o → F a ≠ none ∨ H a = none ∨ st a ≠ none ∨ ∃ ts, H a = some (.tup ts)
theorem Step.refl (F H : Hp) (st : Sto) : Step F H st F H st := ⟨fun _ _ h => h, fun _ _ h k => ⟨h, k⟩, fun a o h => .inl (by rw [h]; exact fun q => nomatch q)⟩
theorem Step.trans {F H : Hp} {st : Sto} {F1 H1 : Hp} {st1 : Sto} {F2 H2 : Hp} {st2 : Sto} (a : Step F H st F1 H1 st1) (b : Step F1 H1 st1 F2 H2 st2) : Step F H st F2 H2 st2 where
  ex := fun x o h => b.ex x o (a.ex x o h)
  pres := fun x o h k => let ⟨h1, k1⟩ := a.pres x o h k; b.pres x o h1 k1
  fnew := fun x o h => by
    rcases b.fnew x o h with q | q | q | ⟨ts, q⟩
    · cases e : F1 x with
      | none => exact absurd e q
      | some u => exact a.fnew x u e
    · cases e : H x with
      | none => exact .inr (.inl rfl)
      | some u =>
        cases e2 : st x with
        | none =>
          have := (a.pres x u e e2).1
          rw [q] at this; cases this
        | some m => exact .inr (.inr (.inl fun z => nomatch z))
    · cases e : H x with
      | none => exact .inr (.inl rfl)
      | some u =>
        cases e2 : st x with
        | none => exact absurd (a.pres x u e e2).2 q
        | some m => exact .inr (.inr (.inl fun z => nomatch z))
    · cases e : H x with
      | none => exact .inr (.inl rfl)
      | some u =>
        cases e2 : st x with
        | none =>
          have := (a.pres x u e e2).1
          rw [q] at this
          cases this
          exact .inr (.inr (.inr ⟨ts, rfl⟩))
        | some m => exact .inr (.inr (.inl fun z => nomatch z))
section
variable {K : PySem.W.Frag} {F F' H H' : Hp} {st st' : Sto} {σ : L2.St} {ε : Env}
theorem Rd.mono {a : Addr} {u : HO} (e : ∀ a o, F a = some o → F' a = some o) (h : Rd F a u) : Rd F' a u := by
  rcases h with h | ⟨o, h⟩
  · exact .inl (e _ _ h)
  · exact .inr ⟨o, e _ _ h⟩
theorem SqL.mono {a : Addr} {xs : List V} (e : ∀ a o, F a = some o → F' a = some o) (h : SqL K F a xs) : SqL K F' a xs := by
  rcases h with h | h
  · exact .inl (Rd.mono e h)
  · exact .inr h
theorem SqT.mono {a : Addr} {xs : List V} (e : ∀ a o, F a = some o → F' a = some o) (h : SqT K F a xs) : SqT K F' a xs := by
  rcases h with h | h
  · exact .inl (Rd.mono e h)
  · exact .inr h
mutual
theorem Rp.mono (e : ∀ a o, F a = some o → F' a = some o) : ∀ {v : V} {d : PyData}, Rp K F v d → Rp K F' v d
  | _, _, .non => .non
  | _, _, .bl b => .bl b
  | _, _, .int i => .int i
  | _, _, .str x => .str x
  | _, _, .lst h q => .lst (SqL.mono e h) (RpAll.mono e q)
  | _, _, .tup h q => .tup (e _ _ h) (RpAll.mono e q)
theorem RpAll.mono (e : ∀ a o, F a = some o → F' a = some o) : ∀ {vs : List V} {ds : List PyData}, RpAll K F vs ds → RpAll K F' vs ds
  | _, _, .nil => .nil
  | _, _, .cons h q => .cons (Rp.mono e h) (RpAll.mono e q)
end
mutual
theorem Rp.dp (e : ∀ a o, F a = some o → H a = some o) : ∀ {v : V} {d : PyData}, Rp K F v d → Dp K H v d
  | _, _, .non => .non
  | _, _, .bl b => .bl b
  | _, _, .int i => .int i
  | _, _, .str x => .str x
  | _, _, .lst h q => .lst (SqL.mono e h) (RpAll.dp e q)
  | _, _, .tup h q => .tup (SqT.of (e _ _ h)) (RpAll.dp e q)
theorem RpAll.dp (e : ∀ a o, F a = some o → H a = some o) : ∀ {vs : List V} {ds : List PyData}, RpAll K F vs ds → DpAll K H vs ds
  | _, _, .nil => .nil
  | _, _, .cons h q => .cons (Rp.dp e h) (RpAll.dp e q)
end
mutual
theorem RV.mono (e : ∀ a o, F a = some o → F' a = some o) : ∀ {v : V} {x : DV}, RV K F v x → RV K F' v x
  | _, _, .d h => .d (Rp.mono e h)
  | _, _, .r a => .r a
  | _, _, .t h q => .t (e _ _ h) (RVs.mono e q)
theorem RVs.mono (e : ∀ a o, F a = some o → F' a = some o) : ∀ {vs : List V} {xs : List DV}, RVs K F vs xs → RVs K F' vs xs
  | _, _, .nil => .nil
  | _, _, .cons h q => .cons (RV.mono e h) (RVs.mono e q)
end
theorem RVs.length : ∀ {vs : List V} {xs : List DV}, RVs K F vs xs → vs.length = xs.length
  | _, _, .nil => rfl
  | _, _, .cons _ q => congrArg (· + 1) (RVs.length q)
theorem RVs.append : ∀ {vs ws : List V} {xs ys : List DV}, RVs K F vs xs → RVs K F ws ys → RVs K F (vs ++ ws) (xs ++ ys)
  | _, _, _, _, .nil, h => h
  | _, _, _, _, .cons h q, k => .cons h (RVs.append q k)
theorem RVs.get : ∀ {vs : List V} {xs : List DV} {i : Nat} {v : V}, RVs K F vs xs → vs[i]? = some v → ∃ x, xs[i]? = some x ∧ RV K F v x
  | _, _, _, _, .nil, e => by simp at e
  | _, _, 0, _, .cons r _, e => by simp at e; subst e; exact ⟨_, rfl, r⟩
  | _, _, i + 1, v, .cons _ t, e => by
    obtain ⟨u, h1, h2⟩ := RVs.get (i := i) (v := v) t (by simpa using e)
    exact ⟨u, by simpa using h1, h2⟩
theorem RVs.get' : ∀ {vs : List V} {xs : List DV} {i : Nat} {x : DV}, RVs K F vs xs → xs[i]? = some x → ∃ v, vs[i]? = some v ∧ RV K F v x
  | _, _, _, _, .nil, e => by simp at e
  | _, _, 0, _, .cons r _, e => by simp at e; subst e; exact ⟨_, rfl, r⟩
  | _, _, i + 1, x, .cons _ t, e => by
    obtain ⟨u, h1, h2⟩ := RVs.get' (i := i) (x := x) t (by simpa using e)
    exact ⟨u, by simpa using h1, h2⟩
theorem RVs.take : ∀ {vs : List V} {xs : List DV} (n : Nat), RVs K F vs xs → RVs K F (vs.take n) (xs.take n)
  | _, _, 0, _ => .nil
  | _, _, _ + 1, .nil => .nil
  | _, _, n + 1, .cons r t => .cons r (RVs.take n t)
theorem RVs.drop : ∀ {vs : List V} {xs : List DV} (n : Nat), RVs K F vs xs → RVs K F (vs.drop n) (xs.drop n)
  | _, _, 0, r => r
  | _, _, _ + 1, .nil => .nil
  | _, _, n + 1, .cons _ t => RVs.drop n t
theorem RVs.set {v : V} {x : DV} (r : RV K F v x) : ∀ {vs : List V} {xs : List DV} (i : Nat), RVs K F vs xs → RVs K F (vs.set i v) (xs.set i x)
  | _, _, _, .nil => .nil
  | _, _, 0, .cons _ t => .cons r t
  | _, _, i + 1, .cons q t => .cons q (RVs.set r i t)
theorem RpAll.rvs : ∀ {vs : List V} {ds : List PyData}, RpAll K F vs ds → RVs K F vs (ds.map .d)
  | _, _, .nil => .nil
  | _, _, .cons h q => .cons (.d h) (RpAll.rvs q)
def datas : List DV → Option (List PyData)
  | [] => some []
  | .d x :: r => (datas r).map (x :: ·)
  | .r _ :: _ => none
  | .t _ :: _ => none
theorem datas_map : ∀ l : List PyData, datas (l.map .d) = some l
  | [] => rfl
  | x :: r => by simp [datas, datas_map r]
theorem datas_eq : ∀ {xs : List DV} {ds : List PyData}, datas xs = some ds → xs = ds.map .d
  | [], _, h => by cases h; rfl
  | .d x :: r, ds, h => by
    cases e : datas r with
    | none => simp [datas, e] at h
    | some l => simp [datas, e] at h; subst h; simp [← datas_eq e]
theorem RVs.all : ∀ {vs : List V} {ds : List PyData}, RVs K F vs (ds.map .d) → RpAll K F vs ds
  | _, [], h => by cases h; exact .nil
  | _, d :: ds, h => by
    cases h with
    | cons a b =>
      cases a with
      | d a => exact .cons a (RVs.all b)
theorem RE.mono (e : ∀ a o, F a = some o → F' a = some o) (h : RE K F σ ε) : RE K F' σ ε := ⟨h.1, fun i x q => let ⟨v, a, b⟩ := h.2 i x q; ⟨v, a, RV.mono e b⟩⟩
theorem RE.set {v : V} {x : DV} (h : RE K F σ ε) (r : RV K F v x) (i : Nat) : RE K F (σ.set i (some v)) (ε.set i (some x)) := by
  refine ⟨by rw [List.length_set, List.length_set]; exact h.1, fun j y q => ?_⟩
  by_cases e : i = j
  · subst e
    by_cases hl : i < ε.length
    · rw [List.getElem?_set_self hl] at q
      cases q
      exact ⟨v, by rw [List.getElem?_set_self (by rw [h.1]; exact hl)], r⟩
    · rw [List.getElem?_eq_none (by rw [List.length_set]; omega)] at q
      cases q
  · rw [List.getElem?_set_ne e] at q ⊢
    exact h.2 j y q
def wipeD (ε : Env) : List Nat → Env
  | [] => ε
  | v :: vs => (wipeD ε vs).set v none
theorem RE.setN (h : RE K F σ ε) (i : Nat) : RE K F (σ.set i none) (ε.set i none) := by
  refine ⟨by rw [List.length_set, List.length_set]; exact h.1, fun j y q => ?_⟩
  by_cases e : i = j
  · subst e
    by_cases hl : i < ε.length
    · rw [List.getElem?_set_self hl] at q
      cases q
    · rw [List.getElem?_eq_none (by rw [List.length_set]; omega)] at q
      cases q
  · rw [List.getElem?_set_ne e] at q ⊢
    exact h.2 j y q
theorem RE.wipe (h : RE K F σ ε) : ∀ vs : List Nat, RE K F (wipe σ vs) (wipeD ε vs)
  | [] => h
  | v :: vs => RE.setN (RE.wipe h vs) v
theorem MOk.mono (e : ∀ a o, F a = some o → F' a = some o) {a : Addr} (hh : H' a = H a) : ∀ {m : MO}, MOk K F H a m → MOk K F' H' a m
  | .lst _, ⟨vs, h, q⟩ => ⟨vs, hh.trans h, RVs.mono e q⟩
  | .dK _, ⟨vs, h, q⟩ => ⟨vs, hh.trans h, Paired.mapP q fun _ _ z => ⟨z.1, RV.mono e z.2⟩⟩
  | .dT _, ⟨vs, h, q⟩ => ⟨vs, hh.trans h, Paired.mapP q fun _ _ z => ⟨z.1, RV.mono e z.2⟩⟩
  | .ins _ _, ⟨dx, vs, h, q⟩ => ⟨dx, vs, hh.trans h, Paired.mapP q fun _ _ z => ⟨z.1, RV.mono e z.2⟩⟩
  | .lk _ _ _, ⟨h, q⟩ => ⟨hh.trans h, Paired.mapP q fun _ _ z => ⟨z.1, RV.mono e z.2⟩⟩
theorem MOk.some {a : Addr} {m : MO} (h : MOk K F H a m) : ∃ o, H a = some o := by
  cases m with
  | lst _ => obtain ⟨_, h, _⟩ := h; exact ⟨_, h⟩
  | dK _ => obtain ⟨_, h, _⟩ := h; exact ⟨_, h⟩
  | dT _ => obtain ⟨_, h, _⟩ := h; exact ⟨_, h⟩
  | ins _ _ => obtain ⟨_, _, h, _⟩ := h; exact ⟨_, h⟩
  | lk _ _ _ => obtain ⟨h, _⟩ := h; exact ⟨_, h⟩
theorem Rs.free (R : Rs K F H st) {p : Addr} (hp : H p = none) : F p = none ∧ st p = none := by
  constructor
  · cases e : F p with
    | none => rfl
    | some o => rw [(R.sub p o e).1] at hp; cases hp
  · cases e : st p with
    | none => rfl
    | some m => obtain ⟨o, q⟩ := (R.ok p m e).some; rw [hp] at q; cases q
/-- a new frozen object -/
theorem Rs.frz (R : Rs K F H st) {p : Addr} {o : HO} (hp : H p = none) : Rs K (upd F p o) (upd H p o) st ∧ Step F H st (upd F p o) (upd H p o) st := by
  obtain ⟨f0, s0⟩ := R.free hp
  have e : ∀ a u, F a = some u → upd F p o a = some u := fun a u h => by
    rw [upd_ne (fun q => by rw [q, f0] at h; cases h)]; exact h
  refine ⟨⟨fun a u h => ?_, fun a m h => ?_⟩, ⟨e, fun a u h k => ⟨?_, k⟩, fun a u h => ?_⟩⟩
  · by_cases q : a = p
    · subst q; rw [upd_same] at h ⊢; exact ⟨h, s0⟩
    · rw [upd_ne q] at h ⊢; exact R.sub a u h
  · refine MOk.mono e ?_ (R.ok a m h)
    exact upd_ne fun q => by rw [q, s0] at h; cases h
  · rw [upd_ne (fun q => by rw [q, hp] at h; cases h)]; exact h
  · by_cases q : a = p
    · subst q; exact .inr (.inl hp)
    · rw [upd_ne q] at h; exact .inl (by rw [h]; exact fun z => nomatch z)
/-- a new hidden object, neither frozen nor in the store -/
theorem Rs.hide (R : Rs K F H st) {p : Addr} {o : HO} (hp : H p = none) : Rs K F (upd H p o) st ∧ Step F H st F (upd H p o) st := by
  obtain ⟨f0, s0⟩ := R.free hp
  refine ⟨⟨fun a u h => ?_, fun a m h => ?_⟩, ⟨fun _ _ h => h, fun a u h k => ⟨?_, k⟩, fun a u h => .inl (by rw [h]; exact fun z => nomatch z)⟩⟩
  · rw [upd_ne (fun q => by rw [q, f0] at h; cases h)]; exact R.sub a u h
  · refine MOk.mono (fun _ _ z => z) ?_ (R.ok a m h)
    exact upd_ne fun q => by rw [q, s0] at h; cases h
  · rw [upd_ne (fun q => by rw [q, hp] at h; cases h)]; exact h
/-- a new object of the store -/
theorem Rs.new (R : Rs K F H st) {p : Addr} {o : HO} {m : MO} (hp : H p = none) (hm : MOk K F (upd H p o) p m) : Rs K F (upd H p o) (up st p m) ∧ Step F H st F (upd H p o) (up st p m) := by
  obtain ⟨f0, s0⟩ := R.free hp
  refine ⟨⟨fun a u h => ?_, fun a m' h => ?_⟩, ⟨fun _ _ h => h, fun a u h k => ?_, fun a u h => .inl (by rw [h]; exact fun z => nomatch z)⟩⟩
  · have q : a ≠ p := fun q => by rw [q, f0] at h; cases h
    rw [upd_ne q, up_ne q]; exact R.sub a u h
  · by_cases q : a = p
    · subst q; rw [up_same] at h; cases h; exact hm
    · rw [up_ne q] at h; exact MOk.mono (fun _ _ z => z) (upd_ne q) (R.ok a m' h)
  · have q : a ≠ p := fun q => by rw [q, hp] at h; cases h
    rw [upd_ne q, up_ne q]; exact ⟨h, k⟩
/-- an object of the store written -/
theorem Rs.put (R : Rs K F H st) {p : Addr} {o : HO} {m m0 : MO} (h0 : st p = some m0) (hm : MOk K F (upd H p o) p m) : Rs K F (upd H p o) (up st p m) ∧ Step F H st F (upd H p o) (up st p m) := by
  have f0 : ∀ u, F p ≠ some u := fun u h => by rw [(R.sub p u h).2] at h0; cases h0
  refine ⟨⟨fun a u h => ?_, fun a m' h => ?_⟩, ⟨fun _ _ h => h, fun a u h k => ?_, fun a u h => .inl (by rw [h]; exact fun z => nomatch z)⟩⟩
  · have q : a ≠ p := fun q => f0 u (q ▸ h)
    rw [upd_ne q, up_ne q]; exact R.sub a u h
  · by_cases q : a = p
    · subst q; rw [up_same] at h; cases h; exact hm
    · rw [up_ne q] at h; exact MOk.mono (fun _ _ z => z) (upd_ne q) (R.ok a m' h)
  · have q : a ≠ p := fun q => by rw [q, h0] at k; cases k
    rw [upd_ne q, up_ne q]; exact ⟨h, k⟩
/-- a hidden object written -/
theorem Rs.hput (R : Rs K F H st) {p : Addr} {o : HO} (f0 : F p = none) (s0 : st p = none) : Rs K F (upd H p o) st := by
  refine ⟨fun a u h => ?_, fun a m' h => ?_⟩
  · have q : a ≠ p := fun q => by rw [q, f0] at h; cases h
    rw [upd_ne q]; exact R.sub a u h
  · have q : a ≠ p := fun q => by rw [q, s0] at h; cases h
    exact MOk.mono (fun _ _ z => z) (upd_ne q) (R.ok a m' h)
def Le (st st' : Sto) : Prop := ∀ a m, st a = some m → st' a = some m
theorem Le.refl (st : Sto) : Le st st := fun _ _ h => h
theorem Le.trans {a b c : Sto} (h : Le a b) (k : Le b c) : Le a c := fun x m q => k x m (h x m q)
theorem Le.up {a b : Sto} {p : Addr} {m : MO} (h : Le a b) (hp : a p = none) : Le a (up b p m) := fun x n q => by
  rw [up_ne (fun e => by rw [e, hp] at q; cases q)]; exact h x n q
theorem Rs.le (R : Rs K F H st') (h : Le st st') : Rs K F H st := ⟨fun a o q => ⟨(R.sub a o q).1, by
  cases e : st a with
  | none => rfl
  | some m =>
    have z := (R.sub a o q).2
    rw [h a m e] at z
    cases z⟩, fun a m q => R.ok a m (h a m q)⟩
end
end DL
end
section
set_option Elab.async false
set_option linter.all false
set_option maxRecDepth 100000
set_option maxHeartbeats 2000000
namespace DL
open PySem L2 PyProof.Rows
abbrev TD := Env → Sto → (DV → Sto → Prop) → Prop
abbrev TDt := Env → Sto → (Bool → Sto → Prop) → Prop
abbrev TDa := Env → Sto → (List DV → Sto → Prop) → Prop
abbrev R2D := DV → DV → Sto → (DV → Sto → Prop) → Prop
abbrev R1D := DV → Sto → (DV → Sto → Prop) → Prop
abbrev RLD := List DV → Sto → (DV → Sto → Prop) → Prop
/-- what is wanted of what comes out -/
def Kg {α β : Type} (rel : Hp → α → β → Prop) (K : PySem.W.Frag) (F H : Hp) (st : Sto) (Qd : β → Sto → Prop) (Q : α → Hp → Prop) : Prop :=
  ∀ F' a H' b st', Step F H st F' H' st' → Rs K F' H' st' → rel F' a b → Qd b st' → Q a H'
def Sg {α β : Type} (rel : Hp → α → β → Prop) (K : PySem.W.Frag) (te : L2.St → Hp → (α → Hp → Prop) → Prop) (t : Env → Sto → (β → Sto → Prop) → Prop) : Prop :=
  ∀ F σ H ε st Qd Q, Rs K F H st → RE K F σ ε → t ε st Qd → Kg rel K F H st Qd Q → te σ H Q
theorem Kg.at {α β : Type} {rel : Hp → α → β → Prop} {K : PySem.W.Frag} {F H : Hp} {st : Sto} {Qd : β → Sto → Prop} {Q : α → Hp → Prop} (k : Kg rel K F H st Qd Q) {a : α} {b : β} (R : Rs K F H st) (r : rel F a b) (q : Qd b st) : Q a H :=
  k F a H b st (Step.refl _ _ _) R r q
abbrev relT : Hp → Bool → Bool → Prop := fun _ a b => a = b
structure DE (X : Cx) (e : Expr) (t : TD) : Prop where
  ex : ∃ te, PE X e te ∧ Sg (RV X.K) X.K te t
structure DT (X : Cx) (e : Expr) (t : TDt) : Prop where
  ex : ∃ te, PT X e te ∧ Sg relT X.K te t
structure DW (X : Cx) (e : Expr) (t : TDt) : Prop where
  ex : ∃ te, PW X e te ∧ Sg relT X.K te t
structure DA (X : Cx) (es : List Expr) (t : TDa) : Prop where
  ex : ∃ te, PA X es te ∧ Sg (RVs X.K) X.K te t
/-- two values in, one out -/
def S2 (K : PySem.W.Frag) (r' : R2) (r : R2D) : Prop := ∀ F H st v w x y Qd Q, Rs K F H st → RV K F v x → RV K F w y → r x y st Qd → Kg (RV K) K F H st Qd Q → r' v w H Q
def S1 (K : PySem.W.Frag) (r' : V → Hp → VK → Prop) (r : R1D) : Prop := ∀ F H st v x Qd Q, Rs K F H st → RV K F v x → r x st Qd → Kg (RV K) K F H st Qd Q → r' v H Q
def SL (K : PySem.W.Frag) (r' : List V → Hp → VK → Prop) (r : RLD) : Prop := ∀ F H st vs xs Qd Q, Rs K F H st → RVs K F vs xs → r xs st Qd → Kg (RV K) K F H st Qd Q → r' vs H Q
/-- the context of a piece of a def's body -/
structure Cok (P : Program) (w : World) (K : PySem.W.Frag) (mg : Str → Option Value) (base : Heap) (X : Cx) (N : List Str) (sc fs : Scope) (k : Nat) : Prop where
  hP : X.prog = P
  hw : X.w = w
  hK : X.K = K
  hmg : X.mg = mg
  hb : X.base = base
  hN : X.N = N
  nd : N.Nodup
  kind : sc.kind = .function
  hs : X.env.scope = sc
  calm : X.calm = true
  fn : ∀ x, fs.names.lookup x = some .cell → X.fn x = true
  room : Room k X.A
  pass : PassesOwn (model X.prog X.w) X.A X.env X.xe
section
variable {P : Program} {w : World} {K : PySem.W.Frag} {mg : Str → Option Value} {base : Heap} {X : Cx} {N : List Str} {sc fs : Scope} {k : Nat}
def visB (N : List Str) (sc : Scope) (i : Nat) (x : Str) : Bool :=
  decide (N[i]? = some x) && (match sc.names.lookup x with | some .local => true | some .cell => true | some .free => true | _ => false) && !(x == ("__debug__" : Str)) && !(x == ("__classdict__" : Str))
def locB (N : List Str) (sc fs : Scope) (i : Nat) (x : Str) : Bool :=
  decide (N[i]? = some x) && (match sc.names.lookup x with | some .local => true | some .cell => (match fs.names.lookup x with | some .cell => true | _ => false) | _ => false)
def glB (sc : Scope) (x : Str) : Bool := (match sc.names.lookup x with | some .globalImplicit => true | _ => false) && !(x == ("__debug__" : Str)) && !(x == ("__name__" : Str))
def qv (i : Nat) : TD := fun ε st Q => match ε[i]? with | some (some x) => Q x st | _ => False
theorem de_var {i : Nat} {x : Str} {pos : Pos} (c : Cok P w K mg base X N sc fs k) (h : visB N sc i x = true) : DE X (.Name x pos) (qv i) := by
  unfold visB at h
  simp only [Bool.and_eq_true, decide_eq_true_eq, Bool.not_eq_true'] at h
  obtain ⟨⟨⟨h1, h2⟩, h3⟩, h4⟩ := h
  refine ⟨⟨tVar i, pe_var (by rw [c.hN]; exact h1) ?_ h3 h4, fun F σ H ε st Qd Q R E q kk => ?_⟩⟩
  · unfold Vis
    rw [c.hs]
    split at h2 <;> first | exact .inl (by assumption) | exact .inr (.inl (by assumption)) | exact .inr (.inr (by assumption)) | cases h2
  · unfold qv at q
    split at q
    · rename_i x e
      obtain ⟨v, e2, r⟩ := E.2 i x e
      exact ⟨v, e2, kk.at R r q⟩
    · exact q.elim
def qc (x : DV) : TD := fun _ st Q => Q x st
theorem de_int {i j pos} : DE X (.Constant (.int i) j pos) (qc (.d (.int i))) := ⟨⟨_, pe_int, fun F σ H ε st Qd Q R E q kk => kk.at R (.d (.int i)) q⟩⟩
theorem de_bl {b j pos} : DE X (.Constant (.bool b) j pos) (qc (.d (.bool b))) := ⟨⟨_, pe_bl, fun F σ H ε st Qd Q R E q kk => kk.at R (.d (.bl b)) q⟩⟩
theorem de_str {x j pos} : DE X (.Constant (.str x) j pos) (qc (.d (.str x))) := ⟨⟨_, pe_str, fun F σ H ε st Qd Q R E q kk => kk.at R (.d (.str x)) q⟩⟩
theorem Sg.bin {α β γ δ ξ ζ : Type} {rel1 : Hp → α → β → Prop} {rel2 : Hp → γ → δ → Prop} {rel3 : Hp → ξ → ζ → Prop} {ta : L2.St → Hp → (α → Hp → Prop) → Prop} {tb : L2.St → Hp → (γ → Hp → Prop) → Prop}
    {da : Env → Sto → (β → Sto → Prop) → Prop} {db : Env → Sto → (δ → Sto → Prop) → Prop} {r' : α → γ → Hp → (ξ → Hp → Prop) → Prop} {r : β → δ → Sto → (ζ → Sto → Prop) → Prop}
    (sa : Sg rel1 K ta da) (sb : Sg rel2 K tb db) (mono : ∀ F F' a b, (∀ x o, F x = some o → F' x = some o) → rel1 F a b → rel1 F' a b)
    (hs : ∀ F H st v w x y Qd Q, Rs K F H st → rel1 F v x → rel2 F w y → r x y st Qd → Kg rel3 K F H st Qd Q → r' v w H Q) :
    Sg rel3 K (fun σ H Q => ta σ H fun x H1 => tb σ H1 fun y H2 => r' x y H2 Q) (fun ε st Q => da ε st fun x s1 => db ε s1 fun y s2 => r x y s2 Q) := by
  intro F σ H ε st Qd Q R E h kk
  refine sa F σ H ε st _ _ R E h fun F1 v H1 x s1 t1 R1 rv q => ?_
  refine sb F1 σ H1 ε s1 _ _ R1 (E.mono t1.ex) q fun F2 u H2 y s2 t2 R2 ru q2 => ?_
  exact hs F2 H2 s2 v u x y _ _ R2 (mono _ _ _ _ t2.ex rv) ru q2 fun F3 z H3 z' s3 t3 R3 rz q3 => kk F3 z H3 z' s3 ((t1.trans t2).trans t3) R3 rz q3
def qOp (r : R2D) (ta tb : TD) : TD := fun ε st Q => ta ε st fun x s1 => tb ε s1 fun y s2 => r x y s2 Q
theorem de_op {op : Operator} {a b : Expr} {pos : Pos} {ta tb : TD} {r' : R2} {r : R2D} (ho : OpR X (binaryOp op) r') (hs : S2 X.K r' r) (ha : DE X a ta) (hb : DE X b tb) : DE X (.BinOp a op b pos) (qOp r ta tb) := by
  obtain ⟨te, pa, sa⟩ := ha
  obtain ⟨tf, pb, sb⟩ := hb
  exact ⟨⟨_, pe_op ho pa pb, Sg.bin sa sb (fun _ _ _ _ e h => RV.mono e h) hs⟩⟩
theorem de_cmp {op : CmpOp} {a b : Expr} {pos : Pos} {ta tb : TD} {r' : R2} {r : R2D} (ho : OpR X (compareOp op) r') (hs : S2 X.K r' r) (hm : behindInMarks op b = false) (ha : DE X a ta) (hb : DE X b tb) : DE X (.Compare a [op] [b] pos) (qOp r ta tb) := by
  obtain ⟨te, pa, sa⟩ := ha
  obtain ⟨tf, pb, sb⟩ := hb
  exact ⟨⟨_, pe_cmpR ho pa pb hm, Sg.bin sa sb (fun _ _ _ _ e h => RV.mono e h) hs⟩⟩
def qUn (r : R1D) (ta : TD) : TD := fun ε st Q => ta ε st fun x s1 => r x s1 Q
theorem Sg.go {α β γ δ : Type} {rel1 : Hp → α → β → Prop} {rel3 : Hp → γ → δ → Prop} {ta : L2.St → Hp → (α → Hp → Prop) → Prop} {da : Env → Sto → (β → Sto → Prop) → Prop} {F H : Hp} {σ : L2.St} {ε : Env} {st : Sto} {G : β → Sto → Prop} {W : α → Hp → Prop}
    {Qd : δ → Sto → Prop} {Q : γ → Hp → Prop} (sa : Sg rel1 K ta da) (R : Rs K F H st) (E : RE K F σ ε) (h : da ε st G) (kk : Kg rel3 K F H st Qd Q)
    (hs : ∀ F1 H1 s1 v x, Rs K F1 H1 s1 → RE K F1 σ ε → rel1 F1 v x → G x s1 → Kg rel3 K F1 H1 s1 Qd Q → W v H1) : ta σ H W := by
  refine sa F σ H ε st _ _ R E h fun F1 v H1 x s1 t1 R1 rv q => ?_
  exact hs F1 H1 s1 v x R1 (E.mono t1.ex) rv q fun F3 z H3 z' s3 t3 R3 rz q3 => kk F3 z H3 z' s3 (t1.trans t3) R3 rz q3
theorem de_un {op : UnaryOp} {a : Expr} {pos : Pos} {ta : TD} {r' : V → Hp → VK → Prop} {r : R1D} (ho : UnR X (unaryOp op) r') (hs : S1 X.K r' r) (ha : DE X a ta) : DE X (.UnaryOp op a pos) (qUn r ta) := by
  obtain ⟨te, pa, sa⟩ := ha
  exact ⟨⟨_, pe_un ho pa, fun F σ H ε st Qd Q R E h kk => sa.go R E h kk fun F1 H1 s1 v x R1 E1 rv q kk => hs F1 H1 s1 v x _ _ R1 rv q kk⟩⟩
def onB (Q : Bool → Sto → Prop) : DV → Sto → Prop
  | .d (.bool b), s => Q b s
  | _, _ => False
theorem onB_out {Q : Bool → Sto → Prop} {x : DV} {s : Sto} (h : onB Q x s) : ∃ b, x = .d (.bool b) ∧ Q b s := by
  unfold onB at h
  split at h
  · exact ⟨_, rfl, h⟩
  · exact h.elim
def qTest (ta : TD) : TDt := fun ε st Q => ta ε st (onB Q)
theorem dt_val {e : Expr} {ta : TD} (ha : DE X e ta) (he : ∀ whole, isTrue e X.env whole = (do let v ← whole; standAt e.pos; holding [v] (truthy v)) := by intro _; rfl) : DT X e (qTest ta) := by
  obtain ⟨te, pa, sa⟩ := ha
  refine ⟨⟨_, pt_val pa he, fun F σ H ε st Qd Q R E h kk => sa.go R E h kk fun F1 H1 s1 v x R1 E1 rv q kk => ?_⟩⟩
  obtain ⟨b, e, q⟩ := onB_out q
  subst e
  cases rv with
  | d rv => cases rv; exact ⟨b, rfl, kk.at R1 rfl q⟩
def qNotT (t : TDt) : TDt := fun ε st Q => t ε st fun b s1 => Q (!b) s1
theorem dt_not {a : Expr} {pos : Pos} {t : TDt} (ha : DT X a t) : DT X (.UnaryOp .Not a pos) (qNotT t) := by
  obtain ⟨te, pa, sa⟩ := ha
  refine ⟨⟨_, pt_not pa, fun F σ H ε st Qd Q R E h kk => sa.go R E h kk fun F1 H1 s1 v x R1 E1 rv q kk => ?_⟩⟩
  cases rv
  exact kk.at R1 rfl q
def qAndT (t u : TDt) : TDt := fun ε st Q => t ε st fun b s1 => if b = true then u ε s1 Q else Q false s1
def qOrT (t u : TDt) : TDt := fun ε st Q => t ε st fun b s1 => if b = true then Q true s1 else u ε s1 Q
theorem DW.pt {e : Expr} {t : TDt} (h : DW X e t) : DT X e t := let ⟨te, p, s⟩ := h.ex; ⟨⟨te, p.pt, s⟩⟩
theorem dw_and1 {a : Expr} {pos : Pos} {t : TDt} (ha : DT X a t) : DW X (.BoolOp .And [a] pos) t := let ⟨te, p, s⟩ := ha.ex; ⟨⟨te, pw_and1 p, s⟩⟩
theorem dw_or1 {a : Expr} {pos : Pos} {t : TDt} (ha : DT X a t) : DW X (.BoolOp .Or [a] pos) t := let ⟨te, p, s⟩ := ha.ex; ⟨⟨te, pw_or1 p, s⟩⟩
theorem dw_and {a b : Expr} {rest : List Expr} {pos : Pos} {t u : TDt} (ha : DT X a t) (hb : DW X (.BoolOp .And (b :: rest) pos) u) : DW X (.BoolOp .And (a :: b :: rest) pos) (qAndT t u) := by
  obtain ⟨te, pa, sa⟩ := ha
  obtain ⟨tf, pb, sb⟩ := hb
  refine ⟨⟨_, pw_and pa pb, fun F σ H ε st Qd Q R E h kk => ?_⟩⟩
  refine sa F σ H ε st _ _ R E h fun F1 v H1 x s1 t1 R1 rv q => ?_
  cases rv
  cases v with
  | true => exact sb F1 σ H1 ε s1 _ _ R1 (E.mono t1.ex) q fun F3 z H3 z' s3 t3 R3 rz q3 => kk F3 z H3 z' s3 (t1.trans t3) R3 rz q3
  | false => exact kk F1 _ H1 _ s1 t1 R1 rfl q
theorem dw_or {a b : Expr} {rest : List Expr} {pos : Pos} {t u : TDt} (ha : DT X a t) (hb : DW X (.BoolOp .Or (b :: rest) pos) u) : DW X (.BoolOp .Or (a :: b :: rest) pos) (qOrT t u) := by
  obtain ⟨te, pa, sa⟩ := ha
  obtain ⟨tf, pb, sb⟩ := hb
  refine ⟨⟨_, pw_or pa pb, fun F σ H ε st Qd Q R E h kk => ?_⟩⟩
  refine sa F σ H ε st _ _ R E h fun F1 v H1 x s1 t1 R1 rv q => ?_
  cases rv
  cases v with
  | false => exact sb F1 σ H1 ε s1 _ _ R1 (E.mono t1.ex) q fun F3 z H3 z' s3 t3 R3 rz q3 => kk F3 z H3 z' s3 (t1.trans t3) R3 rz q3
  | true => exact kk F1 _ H1 _ s1 t1 R1 rfl q
/-- and, or, not as values -/
def qAndV (ta tb : TD) : TD := fun ε st Q => ta ε st (onB fun b s1 => if b = true then tb ε s1 Q else Q (.d (.bool false)) s1)
def qOrV (ta tb : TD) : TD := fun ε st Q => ta ε st (onB fun b s1 => if b = true then Q (.d (.bool true)) s1 else tb ε s1 Q)
def qNotV (ta : TD) : TD := fun ε st Q => ta ε st (onB fun b s1 => Q (.d (.bool (!b))) s1)
theorem de_one {op} {a : Expr} {pos : Pos} {t : TD} (h : DE X a t) : DE X (.BoolOp op [a] pos) t := let ⟨te, p, s⟩ := h.ex; ⟨⟨te, pe_one p, s⟩⟩
theorem de_and {a b : Expr} {rest : List Expr} {pos : Pos} {ta tb : TD} (ha : DE X a ta) (hb : DE X (.BoolOp .And (b :: rest) pos) tb) : DE X (.BoolOp .And (a :: b :: rest) pos) (qAndV ta tb) := by
  obtain ⟨te, pa, sa⟩ := ha
  obtain ⟨tf, pb, sb⟩ := hb
  refine ⟨⟨_, pe_and pa pb, fun F σ H ε st Qd Q R E h kk => ?_⟩⟩
  refine sa F σ H ε st _ _ R E h fun F1 v H1 x s1 t1 R1 rv q => ?_
  obtain ⟨b, rfl, q⟩ := onB_out q
  cases rv with
  | d rv =>
    cases rv
    refine ⟨b, rfl, ?_⟩
    cases b with
    | true => exact sb F1 σ H1 ε s1 _ _ R1 (E.mono t1.ex) q fun F3 z H3 z' s3 t3 R3 rz q3 => kk F3 z H3 z' s3 (t1.trans t3) R3 rz q3
    | false => exact kk F1 _ H1 _ s1 t1 R1 (.d (.bl false)) q
theorem de_or {a b : Expr} {rest : List Expr} {pos : Pos} {ta tb : TD} (ha : DE X a ta) (hb : DE X (.BoolOp .Or (b :: rest) pos) tb) : DE X (.BoolOp .Or (a :: b :: rest) pos) (qOrV ta tb) := by
  obtain ⟨te, pa, sa⟩ := ha
  obtain ⟨tf, pb, sb⟩ := hb
  refine ⟨⟨_, pe_or pa pb, fun F σ H ε st Qd Q R E h kk => ?_⟩⟩
  refine sa F σ H ε st _ _ R E h fun F1 v H1 x s1 t1 R1 rv q => ?_
  obtain ⟨b, rfl, q⟩ := onB_out q
  cases rv with
  | d rv =>
    cases rv
    refine ⟨b, rfl, ?_⟩
    cases b with
    | false => exact sb F1 σ H1 ε s1 _ _ R1 (E.mono t1.ex) q fun F3 z H3 z' s3 t3 R3 rz q3 => kk F3 z H3 z' s3 (t1.trans t3) R3 rz q3
    | true => exact kk F1 _ H1 _ s1 t1 R1 (.d (.bl true)) q
def qIf (t : TDt) (ta tb : TD) : TD := fun ε st Q => t ε st fun b s1 => if b = true then ta ε s1 Q else tb ε s1 Q
theorem de_if {c a b : Expr} {pos : Pos} {t : TDt} {ta tb : TD} (hc : DT X c t) (ha : DE X a ta) (hb : DE X b tb) : DE X (.IfExp c a b pos) (qIf t ta tb) := by
  obtain ⟨tc, pc, sc'⟩ := hc
  obtain ⟨te, pa, sa⟩ := ha
  obtain ⟨tf, pb, sb⟩ := hb
  refine ⟨⟨_, pe_ifExp pc pa pb, fun F σ H ε st Qd Q R E h kk => ?_⟩⟩
  refine sc' F σ H ε st _ _ R E h fun F1 v H1 x s1 t1 R1 rv q => ?_
  cases rv
  cases v with
  | true => exact sa F1 σ H1 ε s1 _ _ R1 (E.mono t1.ex) q fun F3 z H3 z' s3 t3 R3 rz q3 => kk F3 z H3 z' s3 (t1.trans t3) R3 rz q3
  | false => exact sb F1 σ H1 ε s1 _ _ R1 (E.mono t1.ex) q fun F3 z H3 z' s3 t3 R3 rz q3 => kk F3 z H3 z' s3 (t1.trans t3) R3 rz q3
/-- a < b < c -/
def qChain (r r2 : R2D) (ta tb tc : TD) : TD := fun ε st Q => ta ε st fun x s1 => tb ε s1 fun y s2 => r x y s2 (onB fun b s3 => if b = true then tc ε s3 fun u s4 => r2 y u s4 Q else Q (.d (.bool false)) s3)
theorem chain_sim {r1 r2 : R2} {d1 d2 : R2D} {te tf tg : TE} {ta tb tc : TD} (h1 : S2 K r1 d1) (h2 : S2 K r2 d2) (sa : Sg (RV K) K te ta) (sb : Sg (RV K) K tf tb) (sc' : Sg (RV K) K tg tc) : Sg (RV K) K (tChain r1 r2 te tf tg) (qChain d1 d2 ta tb tc) := by
  intro F σ H ε st Qd Q R E h kk
  refine sa F σ H ε st _ _ R E h fun F1 v H1 x s1 t1 R1 rv q => ?_
  refine sb F1 σ H1 ε s1 _ _ R1 (E.mono t1.ex) q fun F2 u H2 y s2 t2 R2 ru q2 => ?_
  refine h1 F2 H2 s2 v u x y _ _ R2 (rv.mono t2.ex) ru q2 fun F3 z H3 z' s3 t3 R3 rz q3 => ?_
  obtain ⟨b, rfl, q3⟩ := onB_out q3
  cases rz with
  | d rz =>
    cases rz
    refine ⟨b, rfl, ?_⟩
    have t123 := (t1.trans t2).trans t3
    cases b with
    | true =>
      refine sc' F3 σ H3 ε s3 _ _ R3 (E.mono t123.ex) q3 fun F4 a4 H4 b4 s4 t4 R4 r4 q4 => ?_
      exact h2 F4 H4 s4 u a4 y b4 _ _ R4 (ru.mono (t3.trans t4).ex) r4 q4 fun F5 z H5 z' s5 t5 R5 rz q5 => kk F5 z H5 z' s5 ((t123.trans t4).trans t5) R5 rz q5
    | false => exact kk F3 _ H3 _ s3 t123 R3 (.d (.bl false)) q3
def qNil : TDa := fun _ st Q => Q [] st
def qCons (ta : TD) (tr : TDa) : TDa := fun ε st Q => ta ε st fun x s1 => tr ε s1 fun xs s2 => Q (x :: xs) s2
theorem da_nil : DA X [] qNil := ⟨⟨_, pa_nil, fun F σ H ε st Qd Q R E q kk => kk.at R .nil q⟩⟩
theorem da_cons {e : Expr} {es : List Expr} {t : TD} {u : TDa} (h : DE X e t) (hr : DA X es u) (hs : starEach (e :: es) X.env = (false, eval e X.env) :: starEach es X.env := by rfl) : DA X (e :: es) (qCons t u) := by
  obtain ⟨te, pa, sa⟩ := h
  obtain ⟨tf, pb, sb⟩ := hr
  exact ⟨⟨_, pa_cons pa pb hs, Sg.bin (r' := fun x xs H Q => Q (x :: xs) H) (r := fun x xs st Q => Q (x :: xs) st) sa sb (fun _ _ _ _ e h => RV.mono e h) fun F H st v w x y Qd Q R rv rw q kk => kk.at R (.cons rv rw) q⟩⟩
theorem Rs.ex (F H : Hp) (st : Sto) (R : Rs K F H st) : ∀ a o, F a = some o → H a = some o := fun a o h => (R.sub a o h).1
def mkT (xs : List DV) : DV := match datas xs with | some ds => .d (.tuple ds) | none => .t xs
theorem mkT_rv {F : Hp} {vs : List V} {xs : List DV} {p : Addr} (h : F p = some (.tup vs)) (r : RVs K F vs xs) : RV K F (.ref p) (mkT xs) := by
  unfold mkT
  cases e : datas xs with
  | some ds =>
    have e2 := datas_eq e
    subst e2
    exact .d (.tup h r.all)
  | none => exact .t h r
/-- a new tuple -/
theorem new_tup {F H : Hp} {st : Sto} {vs : List V} {xs : List DV} {p : Addr} {Qd : DV → Sto → Prop} {Q : VK} (R : Rs K F H st) (r : RVs K F vs xs) (hp : H p = none) (q : Qd (mkT xs) st) (kk : Kg (RV K) K F H st Qd Q) : Q (.ref p) (upd H p (.tup vs)) := by
  obtain ⟨R', t⟩ := R.frz (o := .tup vs) hp
  exact kk _ _ _ _ _ t R' (mkT_rv upd_same (r.mono t.ex)) q
/-- a new list: tracked (m) or frozen -/
def newL (m : Bool) (xs : List DV) (st : Sto) (Q : DV → Sto → Prop) : Prop := match m with
  | true => ∀ p, st p = none → Q (.r p) (up st p (.lst xs))
  | false => match datas xs with | some ds => Q (.d (.list ds)) st | none => False
theorem new_lst {F H : Hp} {st : Sto} {vs : List V} {xs : List DV} {m : Bool} {p : Addr} {Qd : DV → Sto → Prop} {Q : VK} (R : Rs K F H st) (r : RVs K F vs xs) (hp : H p = none) (q : newL m xs st Qd) (kk : Kg (RV K) K F H st Qd Q) : Q (.ref p) (upd H p (.lst vs)) := by
  cases m with
  | true =>
    obtain ⟨R', t⟩ := R.new (o := .lst vs) (m := .lst xs) hp ⟨vs, upd_same, r⟩
    exact kk _ _ _ _ _ t R' (.r p) (q p (R.free hp).2)
  | false =>
    unfold newL at q
    simp only at q
    split at q
    rotate_left
    · exact q.elim
    rename_i ds ed
    have ed2 := datas_eq ed
    subst ed2
    obtain ⟨R', t⟩ := R.frz (o := .lst vs) hp
    exact kk _ _ _ _ _ t R' (.d (.lst (SqL.of upd_same) (r.mono t.ex).all)) q
def qTup (t : TDa) : TD := fun ε st Q => t ε st fun xs s1 => xs.length ≤ sizeLine ∧ Q (mkT xs) s1
def qLst (m : Bool) (t : TDa) : TD := fun ε st Q => t ε st fun xs s1 => xs.length ≤ sizeLine ∧ newL m xs s1 Q
theorem de_tup {es : List Expr} {j : Nat} {pos : Pos} {t : TDa} (h : DA X es t) : DE X (.Tuple es j pos) (qTup t) := by
  obtain ⟨te, pa, sa⟩ := h
  refine ⟨⟨_, pe_tup pa, fun F σ H ε st Qd Q R E h kk => sa.go R E h kk fun F1 H1 s1 v x R1 E1 rv q kk => ?_⟩⟩
  exact ⟨by rw [rv.length]; exact q.1, fun p hp => new_tup R1 rv hp q.2 kk⟩
theorem de_lst {es : List Expr} {pos : Pos} {t : TDa} (m : Bool) (h : DA X es t) : DE X (.List es pos) (qLst m t) := by
  obtain ⟨te, pa, sa⟩ := h
  refine ⟨⟨_, pe_lst pa, fun F σ H ε st Qd Q R E h kk => sa.go R E h kk fun F1 H1 s1 v x R1 E1 rv q kk => ?_⟩⟩
  exact ⟨by rw [rv.length]; exact q.1, fun p hp => new_lst R1 rv hp q.2 kk⟩
end
end DL
end
section
set_option Elab.async false
set_option linter.all false
set_option maxRecDepth 100000
set_option maxHeartbeats 4000000
namespace DL
open PySem L2 PyProof.Rows HT
section
variable {prog : Program} {w : World} {A : Around} {E : Value → Shared → Prop} {s : Shared}
theorem tuple_mul_same (l : Addr) (items : Array Value) (n : Nat) (dd : Option Addr) (sl : Array (Option Value)) (x : Int) (u : Tok) (c0 : (decide (x < -(2 ^ 63)) || decide (x ≥ 2 ^ 63)) = false) (c1 : (items.isEmpty || x == 1) = true) :
    Meets (Builtin.«tuple.__mul__» ⟨[.ref l, .int x u], []⟩) (fun _ R s => s.heap.get? l = some { cls := .type "tuple", dict := dd, data := .seq items n, slots := sl } ∧ R (.ok (.ret (Value.ref l))) s) :=
  .of_wp fun prog w A R s h => by
    obtain ⟨hp, g, d, tk, os⟩ := s
    obtain ⟨hl, h⟩ := h
    have f1 := AutoSeq1.idx_int
    wp_walk using wpAny_loadPart' hl
    repeat (first
      | (refine wpAny_ite_false (decide_eq_false (by rw [c0]; exact Bool.false_ne_true)) ?_; wp_walk using wpAny_loadPart' hl)
      | (refine wpAny_ite_true (decide_eq_true c1) ?_; wp_walk using wpAny_loadPart' hl))
    all_goals exact ⟨_, rfl, h⟩
theorem tuple_mul_none (l : Addr) (items : Array Value) (n : Nat) (dd : Option Addr) (sl : Array (Option Value)) (x : Int) (u : Tok) (c0 : (decide (x < -(2 ^ 63)) || decide (x ≥ 2 ^ 63)) = false) (c1 : (items.isEmpty || x == 1) = false) (c2 : (decide (x ≤ 0) || items.isEmpty) = true) :
    Meets (Builtin.«tuple.__mul__» ⟨[.ref l, .int x u], []⟩) (fun _ R s => s.heap.get? l = some { cls := .type "tuple", dict := dd, data := .seq items n, slots := sl } ∧ R (.ok (.ret (Value.ref s.heap.objs.size))) { s with heap := s.heap.push { cls := Value.type "tuple", data := Data.seq #[] }, toks := s.toks }) :=
  .of_wp fun prog w A R s h => by
    obtain ⟨hp, g, d, tk, os⟩ := s
    obtain ⟨hl, h⟩ := h
    have f1 := AutoSeq1.idx_int
    wp_walk using wpAny_loadPart' hl
    repeat (first
      | (refine wpAny_ite_false (decide_eq_false (by rw [c0]; exact Bool.false_ne_true)) ?_; wp_walk using wpAny_loadPart' hl)
      | (refine wpAny_ite_false (decide_eq_false (by rw [c1]; exact Bool.false_ne_true)) ?_; wp_walk using wpAny_loadPart' hl)
      | (refine wpAny_ite_true (decide_eq_true c2) ?_; wp_walk using wpAny_loadPart' hl))
    all_goals exact ⟨_, rfl, h⟩
end
section
variable {X : Cx}
theorem OpR.or2 {f : Value → Value → Sem Value} {r r' : R2} (h : OpR X f r) (h' : OpR X f r') : OpR X f (fun x y H Q => r x y H Q ∨ r' x y H Q) := by
  intro pins s σ H x y v u Q I rx ry q
  rcases q with q | q
  · exact h pins s σ H x y v u Q I rx ry q
  · exact h' pins s σ H x y v u Q I rx ry q
def rRepA (K : PySem.W.Frag) : R2 := fun x y H Q => ∃ l k xs, x = .ref l ∧ y = .int k ∧ SqT K H l xs ∧ xs ≠ [] ∧ k ≤ 1000 ∧ -1000 ≤ k ∧ xs.length ≤ 1000 ∧ (k = 1 → Q (.ref l) H) ∧ (k ≠ 1 → ∀ p, H p = none → Q (.ref p) (upd H p (.tup (List.replicate k.toNat xs).flatten)))
theorem op_repA : OpR X (binaryOp .Mult) (rRepA X.K) := by
  intro pins s σ H x y v u Q I rx ry h
  obtain ⟨l, k, xs, rfl, rfl, hT, hne, h2, h1, hz, q1, q⟩ := h
  by_cases h3 : 2 ≤ k
  · exact op_repT pins s σ H _ _ v u Q I rx ry ⟨l, k, xs, rfl, rfl, hT, hne, h3, h2, hz, q (by omega)⟩
  cases rx
  obtain ⟨t, rfl⟩ := ry
  obtain ⟨its, r, ⟨⟨cls, dd, data, sl⟩, ho, hc, n, hd⟩, hs⟩ := I.tuple hT
  simp only at hc hd
  subst hc hd
  have hn : its ≠ [] := fun e => hne (by
    have hle : its.length = xs.length := r.length.symm
    rw [e] at hle
    exact List.eq_nil_of_length_eq_zero hle.symm)
  have hi : its.toArray.isEmpty = false := by
    cases its with
    | nil => exact absurd rfl hn
    | cons a b => rfl
  have c0 : (decide (k < -(2 ^ 63)) || decide (k ≥ 2 ^ 63)) = false := by
    rw [decide_eq_false (by omega), decide_eq_false (by omega)] <;> rfl
  by_cases h4 : k = 1
  · subst h4
    exact wpAny_binaryOp_repeat_ref (T := "tuple") (U := "int") (by decide) ⟨_, ho, rfl⟩ (fun s' => typeIs_int s' 1 t) noFill_tuple_mul F.fills_int_mul F.slot_int_rmul repeat_tuple F.slot_int_index.lookup
      (call_meets F.slot_int_rmul (typeIs_int s 1 t) F.entry_int_rmul (F.args_int_rmul_2 _ _) (int_rmul_tuple 1 t l its.toArray n dd sl)
        ⟨ho, rfl, ⟨_, ho, rfl⟩, call_meets F.slot_tuple_mul ⟨_, ho, rfl⟩ F.entry_tuple_mul (F.args_tuple_mul_2 _ _) (tuple_mul_same l its.toArray n dd sl 1 t c0 (by rw [hi]; rfl)) ⟨ho, ⟨.ref l, H, I, rfl, q1 rfl⟩⟩⟩)
  · have c1 : (its.toArray.isEmpty || k == 1) = false := by
      rw [hi, Bool.false_or]
      exact beq_eq_false_iff_ne.mpr h4
    have c2 : (decide (k ≤ 0) || its.toArray.isEmpty) = true := by
      rw [decide_eq_true (by omega)] <;> rfl
    refine wpAny_binaryOp_repeat_ref (T := "tuple") (U := "int") (by decide) ⟨_, ho, rfl⟩ (fun s' => typeIs_int s' k t) noFill_tuple_mul F.fills_int_mul F.slot_int_rmul repeat_tuple F.slot_int_index.lookup
      (call_meets F.slot_int_rmul (typeIs_int s k t) F.entry_int_rmul (F.args_int_rmul_2 _ _) (int_rmul_tuple k t l its.toArray n dd sl)
        ⟨ho, rfl, ⟨_, ho, rfl⟩, call_meets F.slot_tuple_mul ⟨_, ho, rfl⟩ F.entry_tuple_mul (F.args_tuple_mul_2 _ _) (tuple_mul_none l its.toArray n dd sl k t c0 c1 c2) ⟨ho, ?_⟩⟩)
    have e0 : k.toNat = 0 := by omega
    have q' := q h4
    rw [e0] at q'
    refine ⟨.ref s.heap.objs.size, _, I.laid (t' := s.toks) (o := .tup []) (fun b ob q => Heap.get?_push_of_some _ q) (Nat.le_refl _) ?_, rfl, q' _ (I.hok.fresh (Nat.le_refl _))⟩
    exact ⟨Nat.zero_le _, [], .nil, IsTup.new _ _⟩
def rCatL (K : PySem.W.Frag) : R2 := fun x y H Q => ∃ l b xs zs, x = .ref l ∧ y = .ref b ∧ SqL K H l xs ∧ SqL K H b zs ∧ xs.length + zs.length ≤ sizeLine ∧ ∀ p, H p = none → Q (.ref p) (upd H p (.lst (xs ++ zs)))
theorem op_catL : OpR X (binaryOp .Add) (rCatL X.K) := by
  intro pins s σ H x y v u Q I rx ry h
  obtain ⟨l, b, xs, zs, rfl, rfl, hH, hB, hz, q⟩ := h
  cases rx
  cases ry
  obtain ⟨its, r, ⟨⟨cls, dd, data, sl⟩, n, ho, hc, hd0, hd⟩, hs⟩ := I.list hH
  obtain ⟨its2, r2, ⟨⟨cls2, dd2, data2, sl2⟩, n2, ho2, hc2, hd02, hd2⟩, hs2⟩ := I.list hB
  simp only at hc hd hc2 hd2
  subst hc hd hc2 hd2
  have hlen := r.length
  have hlen2 := r2.length
  have e : its.toArray ++ its2.toArray = (its ++ its2).toArray := by simp
  refine concat_meets ⟨_, ho, rfl⟩ ⟨_, ho2, rfl⟩ noFill_list_add seq_list_add PySem.F.slot_list_add PySem.F.entry_list_add (PySem.F.args_list_add_2 _ _) (list_addW l b its.toArray its2.toArray n n2 dd dd2 sl sl2 (by simp only [List.size_toArray]; omega)) ⟨ho, ho2, ?_⟩
  rw [e]
  exact ⟨.ref _, _, I.lnew (t' := s.toks) (r.append r2) (by rw [List.length_append]; omega), rfl, q _ I.fresh⟩
end
end DL
end
section
set_option Elab.async false
set_option linter.all false
set_option maxRecDepth 100000
set_option maxHeartbeats 4000000
namespace DL
open PySem L2 PyProof.Rows
def titems : DV → Option (List DV)
  | .d (.tuple xs) => some (xs.map .d)
  | .t xs => some xs
  | _ => none
def litems (st : Sto) : DV → Option (List DV)
  | .d (.list xs) => some (xs.map .d)
  | .r a => match st a with | some (.lst xs) => some xs | _ => none
  | _ => none
def sitems (st : Sto) (x : DV) : Option (List DV) := match titems x with | some l => some l | none => litems st x
def fz (st : Sto) : DV → Option PyData
  | .d x => some x
  | .t _ => none
  | .r a => match st a with | some (.lst xs) => (datas xs).map .list | _ => none
section
variable {K : PySem.W.Frag} {F H : Hp} {st : Sto} {v w : V} {x y : DV}
theorem rv_int {i : Int} (r : RV K F v (.d (.int i))) : v = .int i := by cases r with | d r => cases r; rfl
theorem rv_bool {b : Bool} (r : RV K F v (.d (.bool b))) : v = .bl b := by cases r with | d r => cases r; rfl
theorem rv_str {z : Str} (r : RV K F v (.d (.str z))) : v = .str z := by cases r with | d r => cases r; rfl
theorem titems_rv {xs : List DV} (r : RV K F v x) (h : titems x = some xs) : ∃ a vs, v = .ref a ∧ F a = some (.tup vs) ∧ RVs K F vs xs := by
  cases x with
  | d z =>
    cases z with
    | tuple ds => cases h; cases r with | d r => cases r with | tup q s => exact ⟨_, _, rfl, q, s.rvs⟩
    | _ => cases h
  | t ys => cases h; cases r with | t q s => exact ⟨_, _, rfl, q, s⟩
  | r a => cases h
theorem litems_rv {xs : List DV} (R : Rs K F H st) (r : RV K F v x) (h : litems st x = some xs) : ∃ a vs, v = .ref a ∧ SqL K H a vs ∧ RVs K F vs xs := by
  cases x with
  | d z =>
    cases z with
    | list ds => cases h; cases r with | d r => cases r with | lst q s => exact ⟨_, _, rfl, SqL.mono (Rs.ex F H st R) q, s.rvs⟩
    | _ => cases h
  | t ys => cases h
  | r a =>
    cases r
    unfold litems at h
    simp only at h
    cases e : st a with
    | none => rw [e] at h; cases h
    | some m =>
      rw [e] at h
      cases m with
      | lst ys =>
        cases h
        obtain ⟨vs, q, s⟩ := R.ok a _ e
        exact ⟨a, vs, rfl, SqL.of q, s⟩
      | dK _ => cases h
      | dT _ => cases h
      | ins _ _ => cases h
      | lk _ _ _ => cases h
theorem sitems_rv {xs : List DV} (R : Rs K F H st) (r : RV K F v x) (h : sitems st x = some xs) : ∃ a vs, v = .ref a ∧ (SqL K H a vs ∨ SqT K H a vs) ∧ RVs K F vs xs := by
  unfold sitems at h
  cases e : titems x with
  | some l =>
    rw [e] at h
    cases h
    obtain ⟨a, vs, e1, q, s⟩ := titems_rv r e
    exact ⟨a, vs, e1, .inr (SqT.of (R.sub _ _ q).1), s⟩
  | none =>
    rw [e] at h
    obtain ⟨a, vs, e1, q, s⟩ := litems_rv R r h
    exact ⟨a, vs, e1, .inl q, s⟩
theorem fz_dp {d : PyData} (R : Rs K F H st) (r : RV K F v x) (h : fz st x = some d) : Dp K H v d := by
  cases x with
  | d z => cases h; cases r with | d r => exact r.dp (Rs.ex F H st R)
  | t ys => cases h
  | r a =>
    cases r
    unfold fz at h
    simp only at h
    cases e : st a with
    | none => rw [e] at h; cases h
    | some m =>
      rw [e] at h
      cases m with
      | lst ys =>
        simp only at h
        cases e2 : datas ys with
        | none => rw [e2] at h; cases h
        | some ds =>
          rw [e2] at h
          cases h
          have e3 := datas_eq e2
          subst e3
          obtain ⟨vs, q, s⟩ := R.ok a _ e
          exact .lst (SqL.of q) (s.all.dp (Rs.ex F H st R))
      | dK _ => cases h
      | dT _ => cases h
      | ins _ _ => cases h
      | lk _ _ _ => cases h
/-- + -/
def qAdd (m : Bool) : R2D := fun x y st Q => match x, y with
  | .d (.int i), .d (.int j) => Q (.d (.int (i + j))) st
  | .d (.str a), .d (.str b) => a.length + b.length ≤ sizeLine ∧ Q (.d (.str (a ++ b))) st
  | _, _ => match titems x, titems y with
    | some a, some b => a.length + b.length ≤ sizeLine ∧ Q (mkT (a ++ b)) st
    | _, _ => match litems st x, litems st y with
      | some a, some b => a.length + b.length ≤ sizeLine ∧ newL m (a ++ b) st Q
      | _, _ => False
variable {X : Cx}
theorem op_qAdd (m : Bool) : ∃ r', OpR X (binaryOp .Add) r' ∧ S2 X.K r' (qAdd m) := by
  refine ⟨_, OpR.or2 (OpR.or2 op_add op_add_str) (OpR.or2 op_catA op_catL), ?_⟩
  intro F H st v w x y Qd Q R rv rw' h kk
  unfold qAdd at h
  split at h
  · cases rv_int rv; cases rv_int rw'
    exact .inl (.inl ⟨_, _, rfl, rfl, kk.at R (.d (.int _)) h⟩)
  · cases rv_str rv; cases rv_str rw'
    exact .inl (.inr ⟨_, _, rfl, rfl, h.1, kk.at R (.d (.str _)) h.2⟩)
  · refine .inr ?_
    split at h
    · rename_i a b ea eb
      obtain ⟨p, vs, rfl, q1, s1⟩ := titems_rv rv ea
      obtain ⟨p2, ws, rfl, q2, s2⟩ := titems_rv rw' eb
      have hl := s1.length
      have hl2 := s2.length
      refine .inl ⟨p, p2, vs, ws, rfl, rfl, SqT.of (R.sub _ _ q1).1, SqT.of (R.sub _ _ q2).1, by omega, fun e => ?_, fun _ e => ?_, fun _ _ p hp => new_tup R (s1.append s2) hp h.2 kk⟩
      · subst e
        cases s1
        exact kk.at R (mkT_rv q2 s2) h.2
      · subst e
        cases s2
        rw [List.append_nil] at h
        exact kk.at R (mkT_rv q1 s1) h.2
    · split at h
      · rename_i a b ea eb
        obtain ⟨p, vs, rfl, q1, s1⟩ := litems_rv R rv ea
        obtain ⟨p2, ws, rfl, q2, s2⟩ := litems_rv R rw' eb
        have hl := s1.length
        have hl2 := s2.length
        exact .inr ⟨p, p2, vs, ws, rfl, rfl, q1, q2, by omega, fun p hp => new_lst R (s1.append s2) hp h.2 kk⟩
      · exact h.elim
/-- dints in, an int out -/
def qI2 (C : Int → Int → Prop) (g : Int → Int → Int) : R2D := fun x y st Q => match x, y with
  | .d (.int i), .d (.int j) => C i j ∧ Q (.d (.int (g i j))) st
  | _, _ => False
theorem qI2_out {C : Int → Int → Prop} {g : Int → Int → Int} {x y : DV} {st : Sto} {Q : DV → Sto → Prop} (h : qI2 C g x y st Q) : ∃ i j, x = .d (.int i) ∧ y = .d (.int j) ∧ C i j ∧ Q (.d (.int (g i j))) st := by
  unfold qI2 at h
  split at h
  · exact ⟨_, _, rfl, rfl, h⟩
  · exact h.elim
theorem s2_I2 {C : Int → Int → Prop} {g : Int → Int → Int} : S2 K (rI C fun i j => .int (g i j)) (qI2 C g) := fun F H st v w x y Qd Q R rv rw' h kk => by
  obtain ⟨i, j, e1, e2, hc, q⟩ := qI2_out h
  subst e1 e2
  cases rv_int rv; cases rv_int rw'
  exact ⟨i, j, rfl, rfl, hc, kk.at R (.d (.int _)) q⟩
theorem s2_I0 {g : Int → Int → Int} : S2 K (rI0 fun i j => .int (g i j)) (qI2 (fun _ _ => True) g) := fun F H st v w x y Qd Q R rv rw' h kk => by
  obtain ⟨i, j, e1, e2, hc, q⟩ := qI2_out h
  subst e1 e2
  cases rv_int rv; cases rv_int rw'
  exact ⟨i, j, rfl, rfl, kk.at R (.d (.int _)) q⟩
def qSub : R2D := qI2 (fun _ _ => True) fun i j => i - j
def CMulA (i j : Int) : Prop := CMul i j ∨ CMulW i j
def qMul (m : Bool) : R2D := fun x y st Q => match x, y with
  | .d (.int i), .d (.int j) => CMulA i j ∧ Q (.d (.int (i * j))) st
  | _, .d (.int k) => match titems x with
    | some a => a ≠ [] ∧ k ≤ 1000 ∧ -1000 ≤ k ∧ a.length ≤ 1000 ∧ Q (mkT (List.replicate k.toNat a).flatten) st
    | none => False
  | _, _ => False
theorem rep_rvs {vs : List V} {xs : List DV} (r : RVs K F vs xs) : ∀ n : Nat, RVs K F (List.replicate n vs).flatten (List.replicate n xs).flatten
  | 0 => .nil
  | n + 1 => by
    rw [List.replicate_succ, List.replicate_succ, List.flatten_cons, List.flatten_cons]
    exact r.append (rep_rvs r n)
theorem op_qMul (m : Bool) : ∃ r', OpR X (binaryOp .Mult) r' ∧ S2 X.K r' (qMul m) := by
  refine ⟨_, OpR.or2 (OpR.or2 op_mul op_mulW) op_repA, ?_⟩
  intro F H st v w x y Qd Q R rv rw' h kk
  unfold qMul at h
  split at h
  · cases rv_int rv; cases rv_int rw'
    rcases h.1 with hc | hc
    · exact .inl (.inl ⟨_, _, rfl, rfl, hc, kk.at R (.d (.int _)) h.2⟩)
    · exact .inl (.inr ⟨_, _, rfl, rfl, hc, kk.at R (.d (.int _)) h.2⟩)
  · cases rv_int rw'
    refine .inr ?_
    split at h
    · rename_i a ea
      obtain ⟨p, vs, rfl, q1, s1⟩ := titems_rv rv ea
      have hl := s1.length
      obtain ⟨h1, h2, h3, h4, h5⟩ := h
      refine ⟨p, _, vs, rfl, rfl, SqT.of (R.sub _ _ q1).1, fun e => h1 ?_, h2, h3, by omega, fun e => ?_, fun _ p hp => new_tup R (rep_rvs s1 _) hp h5 kk⟩
      · subst e
        cases s1
        rfl
      · subst e
        have e1 : (List.replicate (1 : Int).toNat a).flatten = a := by simp
        rw [e1] at h5
        exact kk.at R (mkT_rv q1 s1) h5
    · exact h.elim
  · exact h.elim
def CFd (i j : Int) : Prop := (j ≠ 0 ∧ j.natAbs < 1073741824) ∨ CDivW i j
def qFdiv : R2D := qI2 CFd fun i j => i.fdiv j
theorem op_qFdiv : ∃ r', OpR X (binaryOp .FloorDiv) r' ∧ S2 X.K r' qFdiv := by
  refine ⟨_, OpR.or2 op_fdivN op_fdivW, ?_⟩
  intro F H st v w x y Qd Q R rv rw' h kk
  obtain ⟨i, j, rfl, rfl, hc, q⟩ := qI2_out h
  cases rv_int rv; cases rv_int rw'
  rcases hc with hc | hc
  · exact .inl ⟨i, j, rfl, rfl, hc, kk.at R (.d (.int _)) q⟩
  · refine .inr ⟨i, j, rfl, rfl, hc, ?_⟩
    have h0 : (0 : Int) < j := hc.1
    show Q (V.int (i / j)) H
    rw [show i / j = i.fdiv j from (Int.fdiv_eq_ediv_of_nonneg i (by omega)).symm]
    exact kk.at R (.d (.int _)) q
def qMod : R2D := qI2 (fun _ j => j ≠ 0) fun i j => i.fmod j
theorem op_qMod : ∃ r', OpR X (binaryOp .Mod) r' ∧ S2 X.K r' qMod := ⟨_, op_modN, s2_I2⟩
def qPow : R2D := qI2 CPow fun i j => i ^ j.toNat
theorem op_qPow : ∃ r', OpR X (binaryOp .Pow) r' ∧ S2 X.K r' qPow := ⟨_, op_pow, s2_I2⟩
theorem op_qSub : ∃ r', OpR X (binaryOp .Sub) r' ∧ S2 X.K r' qSub := ⟨_, op_sub, s2_I0⟩
theorem de_bin {op : Operator} {a b : Expr} {pos : Pos} {ta tb : TD} {r : R2D} (ho : ∃ r', OpR X (binaryOp op) r' ∧ S2 X.K r' r) (ha : DE X a ta) (hb : DE X b tb) : DE X (.BinOp a op b pos) (qOp r ta tb) :=
  let ⟨_, h1, h2⟩ := ho; de_op h1 h2 ha hb
theorem de_cp {op : CmpOp} {a b : Expr} {pos : Pos} {ta tb : TD} {r : R2D} (ho : ∃ r', OpR X (compareOp op) r' ∧ S2 X.K r' r) (hm : behindInMarks op b = false) (ha : DE X a ta) (hb : DE X b tb) : DE X (.Compare a [op] [b] pos) (qOp r ta tb) :=
  let ⟨_, h1, h2⟩ := ho; de_cmp h1 h2 hm ha hb
theorem test_sg {te : TE} {t : TD} (a : Sg (RV K) K te t) : Sg relT K (fun σ H Q => te σ H fun z H1 => ∃ k, z = .bl k ∧ Q k H1) (qTest t) := fun F σ H ε st Qd Q R E h kk =>
  a.go R E h kk fun F1 H1 s1 v x R1 E1 rv q kk => by
    obtain ⟨b, rfl, q⟩ := onB_out q
    cases rv_bool rv
    exact ⟨b, rfl, kk.at R1 rfl q⟩
theorem dt_cp {op : CmpOp} {a b : Expr} {pos : Pos} {ta tb : TD} {r : R2D} (ho : ∃ r', OpR X (compareOp op) r' ∧ S2 X.K r' r) (hm : behindInMarks op b = false) (ha : DE X a ta) (hb : DE X b tb) : DT X (.Compare a [op] [b] pos) (qTest (qOp r ta tb)) := by
  obtain ⟨r', h1, h2⟩ := ho
  obtain ⟨te, pa, sa⟩ := ha
  obtain ⟨tf, pb, sb⟩ := hb
  exact ⟨⟨_, pt_cmpR h1 pa pb hm, test_sg (Sg.bin sa sb (fun _ _ _ _ e h => RV.mono e h) h2)⟩⟩
theorem dt_ch {op op' : CmpOp} {a b c : Expr} {pos : Pos} {ta tb tc : TD} {d1 d2 : R2D} (ho : ∃ r', OpR X (compareOp op) r' ∧ S2 X.K r' d1) (ho2 : ∃ r', OpR X (compareOp op') r' ∧ S2 X.K r' d2) (hm : lastMarks [op, op'] [b, c] = false)
    (ha : DE X a ta) (hb : DE X b tb) (hc : DE X c tc) : DT X (.Compare a [op, op'] [b, c] pos) (qTest (qChain d1 d2 ta tb tc)) := by
  obtain ⟨r1, h1, h2⟩ := ho
  obtain ⟨r2, h3, h4⟩ := ho2
  obtain ⟨te, pa, sa⟩ := ha
  obtain ⟨tf, pb, sb⟩ := hb
  obtain ⟨tg, pc, sc'⟩ := hc
  refine ⟨⟨_, pt_chain h1 h3 pa pb pc hm, test_sg (fun F σ H ε st Qd Q R E h kk => ?_)⟩⟩
  exact chain_sim h2 h4 sa sb sc' F σ H ε st Qd Q R E h kk
def qEq : R2D := fun x y st Q => match fz st x, fz st y with
  | some a, some b => SeqAt.shaped a = true ∧ SeqAt.shaped b = true ∧ Q (.d (.bool (PyData.eqv a b))) st
  | _, _ => False
def qNe : R2D := fun x y st Q => match fz st x, fz st y with
  | some a, some b => SeqAt.shaped a = true ∧ SeqAt.shaped b = true ∧ Q (.d (.bool (!PyData.eqv a b))) st
  | _, _ => False
theorem op_qEq (hu : X.A.units + 64 < cLine) : ∃ r', OpR X (compareOp .Eq) r' ∧ S2 X.K r' qEq :=
  ⟨_, op_eqD hu, fun F H st v w x y Qd Q R rv rw' h kk => by
    unfold qEq at h
    split at h
    · rename_i a b e1 e2
      exact ⟨a, b, fz_dp R rv e1, fz_dp R rw' e2, h.1, h.2.1, kk.at R (.d (.bl _)) h.2.2⟩
    · exact h.elim⟩
theorem op_qNe (hu : X.A.units + 64 < cLine) : ∃ r', OpR X (compareOp .NotEq) r' ∧ S2 X.K r' qNe :=
  ⟨_, op_neD hu, fun F H st v w x y Qd Q R rv rw' h kk => by
    unfold qNe at h
    split at h
    · rename_i a b e1 e2
      exact ⟨a, b, fz_dp R rv e1, fz_dp R rw' e2, h.1, h.2.1, kk.at R (.d (.bl _)) h.2.2⟩
    · exact h.elim⟩
def dints : List DV → Option (List Int)
  | [] => some []
  | .d (.int i) :: r => (dints r).map (i :: ·)
  | _ :: _ => none
theorem dints_rvs : ∀ {vs : List V} {xs : List DV} {ns : List Int}, RVs K F vs xs → dints xs = some ns → vs = ns.map V.int ∧ xs = ns.map fun i => .d (.int i)
  | _, [], ns, r, h => by cases h; cases r; exact ⟨rfl, rfl⟩
  | v :: vs, .d (.int i) :: xs, ns, .cons r q, h => by
    cases e : dints xs with
    | none => simp [dints, e] at h
    | some l =>
      simp [dints, e] at h
      subst h
      obtain ⟨h1, h2⟩ := dints_rvs q e
      cases rv_int r
      exact ⟨by rw [h1]; rfl, by rw [h2]; rfl⟩
theorem dints_map : ∀ l : List Int, dints (l.map fun i => .d (.int i)) = some l
  | [] => rfl
  | i :: r => by simp [dints, dints_map r]
def qCmpI (g : Int → Int → Bool) : R2D := fun x y st Q => match x, y with
  | .d (.int i), .d (.int j) => Q (.d (.bool (g i j))) st
  | _, _ => False
theorem s2_cmpI {g : Int → Int → Bool} : S2 K (rI0 fun i j => .bl (g i j)) (qCmpI g) := fun F H st v w x y Qd Q R rv rw' h kk => by
  unfold qCmpI at h
  split at h
  · cases rv_int rv; cases rv_int rw'
    exact ⟨_, _, rfl, rfl, kk.at R (.d (.bl _)) h⟩
  · exact h.elim
def qLt : R2D := fun x y st Q => match x, y with
  | .d (.int i), .d (.int j) => Q (.d (.bool (decide (i < j)))) st
  | _, _ => match (titems x).bind dints, (titems y).bind dints with
    | some ns, some ms => Q (.d (.bool (HT.lexLt ns ms))) st
    | _, _ => False
theorem op_qLt (hu : X.A.units < cLine) : ∃ r', OpR X (compareOp .Lt) r' ∧ S2 X.K r' qLt := by
  refine ⟨_, OpR.or2 op_lt (op_ltT hu), ?_⟩
  intro F H st v w x y Qd Q R rv rw' h kk
  unfold qLt at h
  split at h
  · cases rv_int rv; cases rv_int rw'
    exact .inl ⟨_, _, rfl, rfl, kk.at R (.d (.bl _)) h⟩
  · split at h
    rotate_left
    · exact h.elim
    rename_i ns ms e13 e24
    have q := h
    obtain ⟨a, e1, e3⟩ := Option.bind_eq_some_iff.mp e13
    obtain ⟨b, e2, e4⟩ := Option.bind_eq_some_iff.mp e24
    obtain ⟨p, vs, rfl, q1, s1⟩ := titems_rv rv e1
    obtain ⟨p2, ws, rfl, q2, s2⟩ := titems_rv rw' e2
    obtain ⟨rfl, _⟩ := dints_rvs s1 e3
    obtain ⟨rfl, _⟩ := dints_rvs s2 e4
    exact .inr ⟨p, p2, ns, ms, rfl, rfl, SqT.of (R.sub _ _ q1).1, SqT.of (R.sub _ _ q2).1, kk.at R (.d (.bl _)) q⟩
def qLe : R2D := qCmpI fun i j => decide (i ≤ j)
def qGt : R2D := qCmpI fun i j => decide (j < i)
def qGe : R2D := qCmpI fun i j => decide (j ≤ i)
theorem op_qLe : ∃ r', OpR X (compareOp .LtE) r' ∧ S2 X.K r' qLe := ⟨_, op_le, s2_cmpI⟩
theorem op_qGt : ∃ r', OpR X (compareOp .Gt) r' ∧ S2 X.K r' qGt := ⟨_, op_gt, s2_cmpI⟩
theorem op_qGe : ∃ r', OpR X (compareOp .GtE) r' ∧ S2 X.K r' qGe := ⟨_, op_ge, s2_cmpI⟩
/-- is None -/
def isN : DV → Bool
  | .d .none => true
  | _ => false
def qIsN : R2D := fun x y st Q => y = .d .none ∧ Q (.d (.bool (isN x))) st
def qNotN : R2D := fun x y st Q => y = .d .none ∧ Q (.d (.bool (!isN x))) st
/-- unary minus -/
def qNeg : R1D := fun x st Q => match x with | .d (.int i) => Q (.d (.int (-i))) st | _ => False
theorem de_neg {a : Expr} {pos : Pos} {ta : TD} (ha : DE X a ta) : DE X (.UnaryOp .USub a pos) (qUn qNeg ta) :=
  de_un un_neg (fun F H st v x Qd Q R rv h kk => by
    unfold qNeg at h
    split at h
    · cases rv_int rv; exact ⟨_, rfl, kk.at R (.d (.int _)) h⟩
    · exact h.elim) ha
theorem atI_rv {vs : List V} {xs : List DV} {i : Int} {x : DV} (r : RVs K F vs xs) (h : atI xs i = some x) : ∃ v, atI vs i = some v ∧ RV K F v x := by
  unfold atI at h ⊢
  rw [r.length]
  cases e : ixN xs.length i with
  | none => rw [e] at h; cases h
  | some j =>
    rw [e] at h
    exact r.get' h
def qIx : R2D := fun x y st Q => match y with
  | .d (.int i) => match x with
    | .d (.str z) => z.length ≤ sizeLine ∧ (match atI z.cps.toList i with | some c => Q (.d (.str ⟨#[c]⟩)) st | none => False)
    | _ => match sitems st x with
      | some xs => (match atI xs i with | some z => Q z st | none => False)
      | none => False
  | _ => False
theorem de_ix {a b : Expr} {pos : Pos} {ta tb : TD} (ha : DE X a ta) (hb : DE X b tb) (hs : PlainIx b) : DE X (.Subscript a b pos) (qOp qIx ta tb) := by
  obtain ⟨te, pa, sa⟩ := ha
  obtain ⟨tf, pb, sb⟩ := hb
  refine ⟨⟨_, pe_ix ix_seq pa pb hs, Sg.bin sa sb (fun _ _ _ _ e h => RV.mono e h) ?_⟩⟩
  intro F H st v w x y Qd Q R rv rw' h kk
  unfold qIx at h
  split at h
  · cases rv_int rw'
    split at h
    · cases rv_str rv
      obtain ⟨h1, h⟩ := h
      split at h
      · rename_i c h2
        exact .inr (.inr ⟨_, _, c, rfl, rfl, h1, h2, kk.at R (.d (.str _)) h⟩)
      · exact h.elim
    · split at h
      · rename_i xs es
        split at h
        rotate_left
        · exact h.elim
        rename_i z ez
        have q := h
        obtain ⟨p, vs, rfl, hq, s⟩ := sitems_rv R rv es
        obtain ⟨u, eu, ru⟩ := atI_rv s ez
        rcases hq with hq | hq
        · exact .inl ⟨p, vs, _, u, rfl, rfl, hq, eu, kk.at R ru q⟩
        · exact .inr (.inl ⟨p, vs, _, u, rfl, rfl, hq, eu, kk.at R ru q⟩)
      · exact h.elim
  · exact h.elim
/-- parts of a slice -/
abbrev relO : Hp → Option Int → Option Int → Prop := fun _ a b => a = b
structure DO (X : Cx) (e : Option Expr) (t : Env → Sto → (Option Int → Sto → Prop) → Prop) : Prop where
  ex : ∃ te, PO X e te ∧ Sg relO X.K te t
def qNoPart : Env → Sto → (Option Int → Sto → Prop) → Prop := fun _ st Q => Q none st
def qPart (ta : TD) : Env → Sto → (Option Int → Sto → Prop) → Prop := fun ε st Q => ta ε st fun x s1 => match x with | .d (.int i) => Q (some i) s1 | _ => False
theorem do_none : DO X none qNoPart := ⟨⟨_, po_none, fun F σ H ε st Qd Q R E q kk => kk.at R rfl q⟩⟩
theorem do_some {e : Expr} {ta : TD} (h : DE X e ta) : DO X (some e) (qPart ta) := by
  obtain ⟨te, pa, sa⟩ := h
  refine ⟨⟨_, po_some pa, fun F σ H ε st Qd Q R E h kk => sa.go R E h kk fun F1 H1 s1 v x R1 E1 rv q kk => ?_⟩⟩
  split at q
  · cases rv_int rv
    exact ⟨_, rfl, kk.at R1 rfl q⟩
  · exact q.elim
def cutD {α : Type} (xs : List α) (lo hi : Option Int) : List α := (xs.drop (HT.sIx xs.length 0 lo)).take (HT.sIx xs.length xs.length hi - HT.sIx xs.length 0 lo)
theorem cut_rvs {vs : List V} {xs : List DV} (r : RVs K F vs xs) (lo hi : Option Int) : RVs K F (cutV vs lo hi) (cutD xs lo hi) := by
  unfold cutV cutD
  rw [r.length]
  exact (r.drop _).take _
theorem cutD_map {α β : Type} (f : α → β) (xs : List α) (lo hi : Option Int) : cutD (xs.map f) lo hi = (cutD xs lo hi).map f := by
  unfold cutD
  rw [List.length_map, List.map_take, List.map_drop]
def qSl (m : Bool) (te : TD) (tl th : Env → Sto → (Option Int → Sto → Prop) → Prop) : TD := fun ε st Q => te ε st fun x s1 => tl ε s1 fun lo s2 => th ε s2 fun hi s3 => match x with
  | .d (.str z) => z.length ≤ sizeLine ∧ Q (.d (.str (cutS z lo hi))) s3
  | _ => match titems x with
    | some xs => Q (mkT (cutD xs lo hi)) s3
    | none => match litems s3 x with
      | some xs => newL m (cutD xs lo hi) s3 Q
      | none => False
theorem de_sl {e : Expr} {lo hi : Option Expr} {p2 pos : Pos} {te : TD} {tl th : Env → Sto → (Option Int → Sto → Prop) → Prop} (m : Bool) (he : DE X e te) (hl : DO X lo tl) (hh : DO X hi th) : DE X (.Subscript e (.Slice lo hi none p2) pos) (qSl m te tl th) := by
  obtain ⟨t1, pa, sa⟩ := he
  obtain ⟨t2, pb, sb⟩ := hl
  obtain ⟨t3, pc, sc⟩ := hh
  refine ⟨⟨_, pe_slice (SlR.or (SlR.or sl_list sl_tupA) sl_str) pa pb pc, fun F σ H ε st Qd Q R E h kk => ?_⟩⟩
  refine sa.go R E h kk fun F1 H1 s1 v x R1 E1 rv h kk => ?_
  refine sb F1 σ H1 ε s1 _ _ R1 E1 h fun F2 l H2 l' s2 t2 R2 rl h => ?_
  refine sc F2 σ H2 ε s2 _ _ R2 (E1.mono t2.ex) h fun F3 u H3 u' s3 t3 R3 ru h => ?_
  cases rl; cases ru
  have rv3 := rv.mono (t2.trans t3).ex
  have kk3 : Kg (RV X.K) X.K F3 H3 s3 Qd Q := fun F4 z H4 z' s4 t4 R4 rz q4 => kk F4 z H4 z' s4 ((t2.trans t3).trans t4) R4 rz q4
  split at h
  · cases rv_str rv
    exact .inr ⟨_, rfl, h.1, kk3.at R3 (.d (.str _)) h.2⟩
  · split at h
    · rename_i xs ex
      obtain ⟨p, vs, rfl, q1, s1⟩ := titems_rv rv3 ex
      refine .inl (.inr ⟨p, vs, rfl, SqT.of (R3.sub _ _ q1).1, fun hw => ?_, fun _ p hp => new_tup R3 (cut_rvs s1 _ _) hp h kk3⟩)
      refine kk3.at R3 ?_ h
      have e : cutD xs l u = xs := by
        unfold cutD
        rw [← s1.length]
        rw [hw.1, hw.2, List.drop_zero, Nat.sub_zero, s1.length, List.take_length]
      rw [e]
      exact mkT_rv q1 s1
    · split at h
      · rename_i xs ex
        obtain ⟨p, vs, rfl, q1, s1⟩ := litems_rv R3 rv3 ex
        exact .inl (.inl ⟨p, vs, rfl, q1, fun p hp => new_lst R3 (cut_rvs s1 _ _) hp h kk3⟩)
      · exact h.elim
end
end DL
end
section
set_option Elab.async false
set_option linter.all false
set_option maxRecDepth 100000
set_option maxHeartbeats 4000000
namespace DL
open PySem L2 PyProof.Rows
structure EndsD where
  nx : Env → Sto → Prop
  rt : DV → Sto → Prop
  bk : Env → Sto → Prop := fun _ _ => False
  ct : Env → Sto → Prop := fun _ _ => False
abbrev TDs := EndsD → Env → Sto → Prop
abbrev TDg := DV → Env → Sto → (Env → Sto → Prop) → Prop
abbrev TDgs := List DV → Env → Sto → (Env → Sto → Prop) → Prop
abbrev TDi := Env → Sto → (List DV → (Sto → Prop) → Sto → Prop) → Prop
def KE (K : PySem.W.Frag) (F H : Hp) (st : Sto) (Dn : Env → Sto → Prop) (N : L2.St → Hp → Prop) : Prop :=
  ∀ F' σ' H' ε' st', Step F H st F' H' st' → Rs K F' H' st' → RE K F' σ' ε' → Dn ε' st' → N σ' H'
structure KS (K : PySem.W.Frag) (F H : Hp) (st : Sto) (Dd : EndsD) (D : Ends) : Prop where
  nx : KE K F H st Dd.nx D.nx
  rt : Kg (RV K) K F H st Dd.rt D.rt
  bk : KE K F H st Dd.bk D.bk
  ct : KE K F H st Dd.ct D.ct
theorem KE.step {K : PySem.W.Frag} {F H F1 H1 : Hp} {st st1 : Sto} {Dn : Env → Sto → Prop} {N : L2.St → Hp → Prop} (k : KE K F H st Dn N) (t : Step F H st F1 H1 st1) : KE K F1 H1 st1 Dn N :=
  fun F' σ' H' ε' st' s R E q => k F' σ' H' ε' st' (t.trans s) R E q
theorem Kg.step {α β : Type} {rel : Hp → α → β → Prop} {K : PySem.W.Frag} {F H F1 H1 : Hp} {st st1 : Sto} {Qd : β → Sto → Prop} {Q : α → Hp → Prop} (k : Kg rel K F H st Qd Q) (t : Step F H st F1 H1 st1) : Kg rel K F1 H1 st1 Qd Q :=
  fun F' v H' x st' s R r q => k F' v H' x st' (t.trans s) R r q
theorem KS.step {K : PySem.W.Frag} {F H F1 H1 : Hp} {st st1 : Sto} {Dd : EndsD} {D : Ends} (k : KS K F H st Dd D) (t : Step F H st F1 H1 st1) : KS K F1 H1 st1 Dd D :=
  ⟨k.nx.step t, k.rt.step t, k.bk.step t, k.ct.step t⟩
theorem KE.at {K : PySem.W.Frag} {F H : Hp} {st : Sto} {σ : L2.St} {ε : Env} {Dn : Env → Sto → Prop} {N : L2.St → Hp → Prop} (k : KE K F H st Dn N) (R : Rs K F H st) (E : RE K F σ ε) (q : Dn ε st) : N σ H :=
  k F σ H ε st (Step.refl _ _ _) R E q
def SS (K : PySem.W.Frag) (ts : TS) (t : TDs) : Prop := ∀ F σ H ε st Dd D, Rs K F H st → RE K F σ ε → t Dd ε st → KS K F H st Dd D → ts D σ H
structure DS (X : Cx) (s : Stmt) (t : TDs) : Prop where
  ex : ∃ ts, PS X s ts ∧ SS X.K ts t
structure DSs (X : Cx) (s : List Stmt) (t : TDs) : Prop where
  ex : ∃ ts, PSs X s ts ∧ SS X.K ts t
structure DG (X : Cx) (tg : Expr) (ws : List Nat) (t : TDg) : Prop where
  ex : ∃ g, PG X tg g ∧ ∀ F σ H ε st v x Qd Q, Rs X.K F H st → RE X.K F σ ε → RV X.K F v x → t x ε st Qd →
    (∀ F' σ' H' ε' st', Step F H st F' H' st' → Rs X.K F' H' st' → RE X.K F' σ' ε' → (∀ vs : List Nat, (∀ i ∈ ws, i ∈ vs) → wipe σ' vs = wipe σ vs) → Qd ε' st' → Q σ' H') → g v σ H Q
structure DGs (X : Cx) (tg : List Expr) (ws : List Nat) (t : TDgs) : Prop where
  ex : ∃ g, PGs X tg g ∧ ∀ F σ H ε st v x Qd Q, Rs X.K F H st → RE X.K F σ ε → RVs X.K F v x → t x ε st Qd →
    (∀ F' σ' H' ε' st', Step F H st F' H' st' → Rs X.K F' H' st' → RE X.K F' σ' ε' → (∀ vs : List Nat, (∀ i ∈ ws, i ∈ vs) → wipe σ' vs = wipe σ vs) → Qd ε' st' → Q σ' H') → g v σ H Q
/-- what an iterator of these items does -/
def Src (K : PySem.W.Frag) (F0 : Hp) (J : It) (items : List DV) (inv : Sto → Prop) : Prop := ∀ F H st, (∀ a o, F0 a = some o → F a = some o) → Rs K F H st → inv st →
  (∀ i x, items[i]? = some x → J.go i H ∧ ∀ v H', J.yld i H v H' → ∃ F', Step F H st F' H' st ∧ Rs K F' H' st ∧ RV K F' v x) ∧ J.stop items.length H
structure DI (X : Cx) (tg iter : Expr) (t : TDi) : Prop where
  ex : ∃ wi, PI X tg iter wi ∧ ∀ F σ H ε st Qd R', Rs X.K F H st → RE X.K F σ ε → t ε st Qd →
    (∀ F' J H' items inv st', Step F H st F' H' st' → Rs X.K F' H' st' → Src X.K F' J items inv → Qd items inv st' → R' J H') → wi σ H R'
section
variable {P : Program} {w : World} {K : PySem.W.Frag} {mg : Str → Option Value} {base : Heap} {X : Cx} {N : List Str} {sc fs : Scope} {k : Nat}
def qSeq (t u : TDs) : TDs := fun D ε st => t { D with nx := u D } ε st
def qNext : TDs := fun D ε st => D.nx ε st
theorem ds_nil : DSs X [] qNext := ⟨⟨_, pss_nil, fun F σ H ε st Dd D R E h kk => kk.nx.at R E h⟩⟩
theorem ds_cons {s : Stmt} {r : List Stmt} {t u : TDs} (h : DS X s t) (hr : DSs X r u) : DSs X (s :: r) (qSeq t u) := by
  obtain ⟨ts, p, a⟩ := h
  obtain ⟨us, q, b⟩ := hr
  refine ⟨⟨_, pss_cons p q, fun F σ H ε st Dd D R E h kk => ?_⟩⟩
  exact a F σ H ε st _ _ R E h ⟨fun F' σ' H' ε' st' s R' E' q => b F' σ' H' ε' st' _ _ R' E' q (kk.step s), kk.rt, kk.bk, kk.ct⟩
theorem ds_one {s : Stmt} {t : TDs} (h : DS X s t) : DSs X [s] t := let ⟨ts, p, a⟩ := h.ex; ⟨⟨ts, pss_one p, a⟩⟩
def qNever : TDs := fun _ _ _ => False
theorem ds_never {s : Stmt} : DS X s qNever := ⟨⟨_, ps_never, fun F σ H ε st Dd D R E h kk => h.elim⟩⟩
def qDrop (te : TD) : TDs := fun D ε st => te ε st fun _ s1 => D.nx ε s1
theorem ds_expr {e : Expr} {te : TD} {pos : Pos} (h : DE X e te) (hs : swapsWith e none pos.line X.env = pure false := by rfl) : DS X (.Expr e pos) (qDrop te) := by
  obtain ⟨t1, p, a⟩ := h
  refine ⟨⟨_, ps_expr p hs, fun F σ H ε st Dd D R E h kk => ?_⟩⟩
  exact a F σ H ε st _ _ R E h fun F' v H' x st' s R' r q => kk.nx F' σ H' ε st' s R' (E.mono s.ex) q
def qRet (te : TD) : TDs := fun D ε st => te ε st D.rt
theorem ds_ret {e : Expr} {te : TD} {pos : Pos} (h : DE X e te) : DS X (.Return (some e) pos) (qRet te) := by
  obtain ⟨t1, p, a⟩ := h
  exact ⟨⟨_, ps_ret p, fun F σ H ε st Dd D R E h kk => a F σ H ε st _ _ R E h kk.rt⟩⟩
def qRetN : TDs := fun D _ st => D.rt (.d .none) st
def qIfS (c : TDt) (t u : TDs) : TDs := fun D ε st => c ε st fun b s1 => if b = true then t D ε s1 else u D ε s1
theorem ds_if {c : Expr} {a b : List Stmt} {pos : Pos} {tc : TDt} {t u : TDs} (hc : DT X c tc) (ha : DSs X a t) (hb : DSs X b u) : DS X (.If c a b pos) (qIfS tc t u) := by
  obtain ⟨t0, p0, a0⟩ := hc
  obtain ⟨t1, p1, a1⟩ := ha
  obtain ⟨t2, p2, a2⟩ := hb
  refine ⟨⟨_, ps_if p0 p1 p2, fun F σ H ε st Dd D R E h kk => ?_⟩⟩
  refine a0 F σ H ε st _ _ R E h fun F' v H' x st' s R' r q => ?_
  cases r
  cases v with
  | true => exact a1 F' σ H' ε st' _ _ R' (E.mono s.ex) q (kk.step s)
  | false => exact a2 F' σ H' ε st' _ _ R' (E.mono s.ex) q (kk.step s)
theorem wipe_set {σ : L2.St} {i : Nat} {v : Option V} : ∀ {vs : List Nat}, i ∈ vs → wipe (σ.set i v) vs = wipe σ vs := by
  have comm : ∀ {vs : List Nat} {i : Nat} {σ : L2.St} {v : Option V}, i ∉ vs → wipe (σ.set i v) vs = (wipe σ vs).set i v := by
    intro vs
    induction vs with
    | nil => intros; rfl
    | cons j vs ih =>
      intro i σ v h
      have h1 : i ≠ j := fun e => h (by rw [e]; exact List.mem_cons_self)
      have h2 : i ∉ vs := fun e => h (List.mem_cons_of_mem _ e)
      show (wipe (σ.set i v) vs).set j none = ((wipe σ vs).set j none).set i v
      rw [ih h2, List.set_comm _ _ h1]
  intro vs
  induction vs with
  | nil => intro h; cases h
  | cons j vs ih =>
    intro h
    show (wipe (σ.set i v) vs).set j none = (wipe σ vs).set j none
    by_cases e : i ∈ vs
    · rw [ih e]
    · have e2 : i = j := by
        rcases List.mem_cons.mp h with q | q
        · exact q
        · exact absurd q e
      rw [comm e, ← e2, List.set_set]
def qgN (i : Nat) : TDg := fun x ε st Q => Q (ε.set i (some x)) st
theorem loc_of {i : Nat} {x : Str} (c : Cok P w K mg base X N sc fs k) (h : locB N sc fs i x = true) : X.N[i]? = some x ∧ L2.Loc X.env.scope x ∧ (X.fn x = true ∨ X.env.scope.names.lookup x = some .local) := by
  unfold locB at h
  simp only [Bool.and_eq_true, decide_eq_true_eq] at h
  obtain ⟨h1, h2⟩ := h
  refine ⟨by rw [c.hN]; exact h1, ?_, ?_⟩
  · unfold L2.Loc
    rw [c.hs]
    split at h2 <;> first | exact .inl (by assumption) | exact .inr (by assumption) | cases h2
  · rw [c.hs]
    split at h2
    · exact .inr (by assumption)
    · split at h2
      · exact .inl (c.fn _ (by assumption))
      · cases h2
    · cases h2
theorem dg_name {i : Nat} {x : Str} {pos : Pos} (c : Cok P w K mg base X N sc fs k) (h : locB N sc fs i x = true) : DG X (.Name x pos) [i] (qgN i) := by
  obtain ⟨h1, h2, h3⟩ := loc_of c h
  refine ⟨⟨gName i, pg_name (by rw [c.hN]; exact c.nd) h1 h2 h3, fun F σ H ε st v x Qd Q R E r q kk => ?_⟩⟩
  exact kk F _ H _ st (Step.refl _ _ _) R (E.set r i) (fun vs hv => wipe_set (hv i (by simp))) q
def qgNil : TDgs := fun vs ε st Q => vs = [] ∧ Q ε st
def qgCons (t : TDg) (u : TDgs) : TDgs := fun vs ε st Q => match vs with | [] => False | v :: r => t v ε st fun ε' s' => u r ε' s' Q
theorem dgs_nil : DGs X [] [] qgNil := ⟨⟨_, pgs_nil, fun F σ H ε st v x Qd Q R E r ⟨e, q⟩ kk => by
  subst e
  cases r
  exact ⟨rfl, kk F σ H ε st (Step.refl _ _ _) R E (fun _ _ => rfl) q⟩⟩⟩
theorem dgs_cons {e : Expr} {es : List Expr} {w1 w2 : List Nat} {t : TDg} {u : TDgs} (h : DG X e w1 t) (hr : DGs X es w2 u)
    (hs : (assignEach (e :: es) X.env).map (·.2) = assign e X.env :: (assignEach es X.env).map (·.2) := by rfl) : DGs X (e :: es) (w1 ++ w2) (qgCons t u) := by
  obtain ⟨g, p, a⟩ := h
  obtain ⟨gs, q, b⟩ := hr
  refine ⟨⟨_, pgs_cons p q hs, fun F σ H ε st v x Qd Q R E r h kk => ?_⟩⟩
  cases r with
  | nil => exact h.elim
  | cons r rr =>
    refine ⟨_, _, rfl, a F σ H ε st _ _ _ _ R E r h fun F1 σ1 H1 ε1 st1 s1 R1 E1 w1' h1 => ?_⟩
    exact b F1 σ1 H1 ε1 st1 _ _ _ _ R1 E1 (rr.mono s1.ex) h1 fun F2 σ2 H2 ε2 st2 s2 R2 E2 w2' h2 =>
      kk F2 σ2 H2 ε2 st2 (s1.trans s2) R2 E2 (fun vs hv => (w2' vs fun i hi => hv i (List.mem_append_right _ hi)).trans (w1' vs fun i hi => hv i (List.mem_append_left _ hi))) h2
def qgT (n : Nat) (t : TDgs) : TDg := fun x ε st Q => match titems x with | some xs => xs.length = n ∧ t xs ε st Q | none => False
theorem dg_tup {es : List Expr} {j : Nat} {pos : Pos} {ws : List Nat} {n : Nat} {t : TDgs} (c : Cok P w K mg base X N sc fs k) (h : DGs X es ws t) (hn : (assignEach es X.env).length = n := by rfl) (hst : (assignEach es X.env).findIdx? (·.1) = none := by rfl) : DG X (.Tuple es j pos) ws (qgT n t) := by
  obtain ⟨g, p, a⟩ := h
  refine ⟨⟨_, pg_tup c.calm p hn hst, fun F σ H ε st v x Qd Q R E r h kk => ?_⟩⟩
  unfold qgT at h
  split at h
  · rename_i xs ex
    obtain ⟨b, vs, rfl, q1, s1⟩ := titems_rv r ex
    exact ⟨b, vs, rfl, SqT.of (R.sub _ _ q1).1, s1.length.trans h.1, a F σ H ε st vs xs Qd Q R E s1 h.2 kk⟩
  · exact h.elim
def qAsg (te : TD) (g : TDg) : TDs := fun D ε st => te ε st fun x s1 => g x ε s1 D.nx
/-- an environment that bears a scope alone, for the looks at stores -/
def envS (sc : Scope) : PySem.Env := { scope := sc, locals := 0, globals := 0, cells := [], qual := Str.empty, func := none, code := .none, frame := none, builtins := 0 }
theorem kindOf_S (c : Cok P w K mg base X N sc fs k) : ∀ x, X.env.kindOf x = (envS sc).kindOf x := fun x => by
  unfold PySem.Env.kindOf
  rw [c.hs]
  rfl
theorem blockKind_S (c : Cok P w K mg base X N sc fs k) : X.env.blockKind = (envS sc).blockKind := by
  unfold PySem.Env.blockKind
  rw [c.hs]
  rfl
theorem swapped_S (c : Cok P w K mg base X N sc fs k) (ts : List Expr) (v : Expr) : swappedStores ts v X.env = swappedStores ts v (envS sc) := by
  unfold swappedStores
  simp only [kindOf_S c, blockKind_S c]
theorem swaps_S (c : Cok P w K mg base X N sc fs k) (v : Expr) (t : Option Expr) (l : Nat) : swapsWith v t l X.env = swapsWith v t l (envS sc) := by
  unfold swapsWith
  simp only [kindOf_S c, blockKind_S c, c.hs]
  rfl
theorem swapsS_S (c : Cok P w K mg base X N sc fs k) (ts : List Expr) (v : Expr) (l : Nat) : swapsWithSole ts v l X.env = swapsWithSole ts v l (envS sc) := by
  unfold swapsWithSole
  split
  · exact swaps_S c _ _ _
  · rfl
theorem ds_asg {tg e : Expr} {pos : Pos} {ws : List Nat} {te : TD} {g : TDg} (c : Cok P w K mg base X N sc fs k) (he : DE X e te) (hg : DG X tg ws g) (hs : swapsWithSole [tg] e pos.line (envS sc) = pure false) (hw : swappedStores [tg] e (envS sc) = pure none) (h1 : (assignEach [tg] X.env).map (·.2) = [assign tg X.env] := by rfl) : DS X (.Assign [tg] e pos) (qAsg te g) := by
  obtain ⟨t1, p1, a1⟩ := he
  obtain ⟨t2, p2, a2⟩ := hg
  refine ⟨⟨_, ps_asg p1 p2 ((swapsS_S c _ _ _).trans hs) ((swapped_S c _ _).trans hw) h1, fun F σ H ε st Dd D R E h kk => ?_⟩⟩
  refine a1 F σ H ε st _ _ R E h fun F1 v H1 x st1 s1 R1 r q => ?_
  exact a2 F1 σ H1 ε st1 v x _ _ R1 (E.mono s1.ex) r q fun F2 σ2 H2 ε2 st2 s2 R2 E2 _ q2 => kk.nx F2 σ2 H2 ε2 st2 (s1.trans s2) R2 E2 q2
/-- a, b = x, y stored from the right -/
def qPar (i j : Nat) (ta : TDa) : TDs := fun D ε st => ta ε st fun xs s1 => match xs with | [x, y] => D.nx ((ε.set i (some x)).set j (some y)) s1 | _ => False
def parB (N : List Str) (sc : Scope) (i j : Nat) (x y : Str) : Bool := decide (N[i]? = some x) && decide (N[j]? = some y) && decide (i ≠ j) && decide (sc.names.lookup x = some .local) && decide (sc.names.lookup y = some .local)
theorem ds_par {i j : Nat} {x y : Str} {a b : Expr} {ta : TDa} {px py pt pos : Pos} {kt k2 pt2} (c : Cok P w K mg base X N sc fs k) (hb : parB N sc i j x y = true) (ha : DA X [a, b] ta)
    (hw : swappedStores [.Tuple [.Name x px, .Name y py] kt pt] (.Tuple [a, b] k2 pt2) (envS sc) = pure (some [x, y])) :
    DS X (.Assign [.Tuple [.Name x px, .Name y py] kt pt] (.Tuple [a, b] k2 pt2) pos) (qPar i j ta) := by
  unfold parB at hb
  simp only [Bool.and_eq_true, decide_eq_true_eq] at hb
  obtain ⟨⟨⟨⟨h1, h2⟩, h3⟩, h4⟩, h5⟩ := hb
  obtain ⟨t1, p1, a1⟩ := ha
  refine ⟨⟨_, ps_par c.calm (by rw [c.hN]; exact c.nd) (by rw [c.hN]; exact h1) (by rw [c.hN]; exact h2) h3 (by rw [c.hs]; exact h4) (by rw [c.hs]; exact h5) p1 ((swapped_S c _ _).trans hw), fun F σ H ε st Dd D R E h kk => ?_⟩⟩
  refine a1 F σ H ε st _ _ R E h fun F1 v H1 x st1 s1 R1 r q => ?_
  split at q
  · cases r with
    | cons r1 r =>
      cases r with
      | cons r2 r =>
        cases r
        exact ⟨_, _, rfl, kk.nx F1 _ H1 _ st1 s1 R1 (((E.mono s1.ex).set r1 i).set r2 j) q⟩
  · exact q.elim
def qPar3 (i j l : Nat) (ta : TDa) : TDs := fun D ε st => ta ε st fun xs s1 => match xs with | [x, y, z] => D.nx (((ε.set i (some x)).set j (some y)).set l (some z)) s1 | _ => False
def parB3 (N : List Str) (sc : Scope) (i j l : Nat) (x y z : Str) : Bool := parB N sc i j x y && parB N sc i l x z && parB N sc j l y z
theorem ds_par3 {i j l : Nat} {x y z : Str} {a b d : Expr} {ta : TDa} {px py pz pt pos : Pos} {kt k2 pt2} (c : Cok P w K mg base X N sc fs k) (hb : parB3 N sc i j l x y z = true) (ha : DA X [a, b, d] ta)
    (hw : swappedStores [.Tuple [.Name x px, .Name y py, .Name z pz] kt pt] (.Tuple [a, b, d] k2 pt2) (envS sc) = pure (some [x, y, z])) :
    DS X (.Assign [.Tuple [.Name x px, .Name y py, .Name z pz] kt pt] (.Tuple [a, b, d] k2 pt2) pos) (qPar3 i j l ta) := by
  unfold parB3 parB at hb
  simp only [Bool.and_eq_true, decide_eq_true_eq] at hb
  obtain ⟨⟨⟨⟨⟨⟨h1, h2⟩, h3⟩, h4⟩, h5⟩, ⟨⟨⟨⟨_, g2⟩, g3⟩, _⟩, g5⟩⟩, ⟨⟨⟨⟨_, _⟩, f3⟩, _⟩, _⟩⟩ := hb
  obtain ⟨t1, p1, a1⟩ := ha
  refine ⟨⟨_, ps_par3 c.calm (by rw [c.hN]; exact c.nd) (by rw [c.hN]; exact h1) (by rw [c.hN]; exact h2) (by rw [c.hN]; exact g2) h3 g3 f3 (by rw [c.hs]; exact h4) (by rw [c.hs]; exact h5) (by rw [c.hs]; exact g5) p1 ((swapped_S c _ _).trans hw), fun F σ H ε st Dd D R E h kk => ?_⟩⟩
  refine a1 F σ H ε st _ _ R E h fun F1 v H1 x st1 s1 R1 r q => ?_
  split at q
  · cases r with
    | cons r1 r =>
      cases r with
      | cons r2 r =>
        cases r with
        | cons r3 r =>
          cases r
          exact ⟨_, _, _, rfl, kk.nx F1 _ H1 _ st1 s1 R1 ((((E.mono s1.ex).set r1 i).set r2 j).set r3 l) q⟩
  · exact q.elim
/-- name op= e, ints -/
def qAug (i : Nat) (te : TD) (g : Int → Int → Int) : TDs := fun D ε st => match ε[i]? with
  | some (some (.d (.int a))) => te ε st fun y s1 => (match y with | .d (.int b) => D.nx (ε.set i (some (.d (.int (g a b))))) s1 | _ => False)
  | _ => False
def qLoop (inv : Sto → Prop) (g : TDg) (tb : TDs) (D : EndsD) : List DV → Env → Sto → Prop
  | [], ε, st => inv st ∧ D.nx ε st
  | x :: r, ε, st => inv st ∧ g x ε st fun ε1 s1 => tb { D with nx := qLoop inv g tb D r, ct := qLoop inv g tb D r, bk := D.nx } ε1 s1
def qFor (ti : TDi) (g : TDg) (tb : TDs) : TDs := fun D ε st => ti ε st fun items inv s1 => qLoop inv g tb D items ε s1
theorem qLoop_inv {inv : Sto → Prop} {g : TDg} {tb : TDs} {D : EndsD} {l : List DV} {ε : Env} {st : Sto} (h : qLoop inv g tb D l ε st) : inv st := by
  cases l with
  | nil => exact h.1
  | cons x r => exact h.1
theorem ds_for {tg iter : Expr} {body : List Stmt} {pos : Pos} {ws : List Nat} {ti : TDi} {g : TDg} {tb : TDs} (c : Cok P w K mg base X N sc fs k) (hi : DI X tg iter ti) (hg : DG X tg ws g) (hb : DSs X body tb) (hs : ∀ x, foldedSetIterable iter X.env x = pure x := by intro _; rfl) : DS X (.For tg iter body [] pos) (qFor ti g tb) := by
  obtain ⟨wi, p0, a0⟩ := hi
  obtain ⟨gg, p1, a1⟩ := hg
  obtain ⟨ts, p2, a2⟩ := hb
  refine ⟨⟨_, ps_for c.pass c.calm p0 p1 p2 hs, fun F σ H ε st Dd D R E h kk => ?_⟩⟩
  refine a0 F σ H ε st _ _ R E h fun F1 J H1 items inv st1 s1 R1 src q => ?_
  refine ⟨fun i m σ' H' => i ≤ items.length ∧ m = items.length - i ∧ ∃ F' ε' st', Step F1 H1 st1 F' H' st' ∧ Rs X.K F' H' st' ∧ RE X.K F' σ' ε' ∧ qLoop inv g tb Dd (items.drop i) ε' st',
    ⟨items.length, Nat.zero_le _, by omega, F1, ε, st1, Step.refl _ _ _, R1, E.mono s1.ex, by rw [List.drop_zero]; exact q⟩, ?_⟩
  rintro i m σ' H' ⟨hi, rfl, F2, ε2, st2, s2, R2, E2, q2⟩
  have iv := qLoop_inv q2
  obtain ⟨src1, src2⟩ := src F2 H' st2 s2.ex R2 iv
  have s12 := s1.trans s2
  by_cases hlt : i < items.length
  · have ed : items.drop i = items[i] :: items.drop (i + 1) := List.drop_eq_getElem_cons hlt
    rw [ed] at q2
    obtain ⟨go, yl⟩ := src1 i items[i] (List.getElem?_eq_getElem hlt)
    refine .inr ⟨go, fun σ' H' => ∃ F' ε' st', Step F1 H1 st1 F' H' st' ∧ Rs X.K F' H' st' ∧ RE X.K F' σ' ε' ∧ qLoop inv g tb Dd (items.drop (i + 1)) ε' st', fun σ3 H3 q3 => ⟨items.length - (i + 1), by omega, hlt, rfl, q3⟩, fun v H3 y => ?_⟩
    obtain ⟨F3, s3, R3, r3⟩ := yl v H3 y
    refine a1 F3 σ' H3 ε2 st2 v items[i] _ _ R3 (E2.mono s3.ex) r3 q2.2 fun F4 σ4 H4 ε4 st4 s4 R4 E4 _ q4 => ?_
    have s24 := s2.trans (s3.trans s4)
    refine a2 F4 σ4 H4 ε4 st4 _ _ R4 E4 q4 ⟨?_, (kk.step (s1.trans s24)).rt, (kk.step (s1.trans s24)).nx, ?_⟩
    · exact fun F5 σ5 H5 ε5 st5 s5 R5 E5 q5 => ⟨F5, ε5, st5, s24.trans s5, R5, E5, q5⟩
    · exact fun F5 σ5 H5 ε5 st5 s5 R5 E5 q5 => ⟨F5, ε5, st5, s24.trans s5, R5, E5, q5⟩
  · have e : i = items.length := by omega
    subst e
    rw [List.drop_length] at q2
    exact .inl ⟨src2, kk.nx F2 σ' H' ε2 st2 s12 R2 E2 q2.2⟩
theorem Step.hid {F H F' H' : Hp} {st st' : Sto} {p : Addr} {o : HO} (s : Step F H st F' H' st') (h : H p = some o) (f : F p = none) (e : st p = none) (ht : ∀ ts, o ≠ .tup ts := by intro _ z; cases z) : H' p = some o ∧ F' p = none ∧ st' p = none := by
  obtain ⟨h1, h2⟩ := s.pres p o h e
  refine ⟨h1, ?_, h2⟩
  cases q : F' p with
  | none => rfl
  | some u =>
    rcases s.fnew p u q with z | z | z | ⟨ts, z⟩
    · exact absurd f z
    · rw [h] at z; cases z
    · exact absurd e z
    · rw [h] at z
      cases z
      exact absurd rfl (ht ts)
theorem Step.hput {F H F' H' : Hp} {st st' : Sto} {p : Addr} {o : HO} (s : Step F H st F' H' st') (h : H p = none) : Step F H st F' (upd H' p o) st' :=
  ⟨s.ex, fun a u e k => ⟨by rw [upd_ne (fun q => by rw [q, h] at e; cases e)]; exact (s.pres a u e k).1, (s.pres a u e k).2⟩, s.fnew⟩
/-- a hidden list comes into sight -/
theorem seen_lst {F0 H0 F H : Hp} {st0 st : Sto} {p : Addr} {vs : List V} {xs : List DV} {m : Bool} {Qd : DV → Sto → Prop} {Q : VK} (s : Step F0 H0 st0 F H st) (h0 : H0 p = none) (R : Rs K F H st) (hp : H p = some (.lst vs)) (f : F p = none) (e : st p = none) (r : RVs K F vs xs)
    (q : newL m xs st Qd) (kk : Kg (RV K) K F0 H0 st0 Qd Q) : Q (.ref p) H := by
  cases m with
  | true =>
    refine kk F (.ref p) H (.r p) (up st p (.lst xs)) ⟨s.ex, fun a u ha k => ?_, s.fnew⟩ ⟨fun a u ha => ?_, fun a m ha => ?_⟩ (.r p) (q p e)
    · rw [up_ne (fun z => by rw [z, h0] at ha; cases ha)]; exact s.pres a u ha k
    · rw [up_ne (fun z => by rw [z, f] at ha; cases ha)]; exact R.sub a u ha
    · by_cases z : a = p
      · subst z; rw [up_same] at ha; cases ha; exact ⟨vs, hp, r⟩
      · rw [up_ne z] at ha; exact R.ok a m ha
  | false =>
    unfold newL at q
    simp only at q
    split at q
    rotate_left
    · exact q.elim
    rename_i ds ed
    have ed2 := datas_eq ed
    subst ed2
    have ex : ∀ a o, F a = some o → upd F p (.lst vs) a = some o := fun a o ha => by rw [upd_ne (fun z => by rw [z, f] at ha; cases ha)]; exact ha
    refine kk (upd F p (.lst vs)) (.ref p) H (.d (.list ds)) st ⟨fun a o ha => ex a o (s.ex a o ha), s.pres, fun a u ha => ?_⟩ ⟨fun a u ha => ?_, fun a m ha => MOk.mono ex rfl (R.ok a m ha)⟩ (.d (.lst (SqL.of upd_same) (r.mono ex).all)) q
    · by_cases z : a = p
      · subst z; exact .inr (.inl h0)
      · rw [upd_ne z] at ha; exact s.fnew a u ha
    · by_cases z : a = p
      · subst z; rw [upd_same] at ha; cases ha; exact ⟨hp, e⟩
      · rw [upd_ne z] at ha; exact R.sub a u ha
def qComp (inv : Sto → Prop) (g : TDg) (tt : TDt) (te : TD) (ε : Env) (Kc : List DV → Sto → Prop) : List DV → List DV → Sto → Prop
  | [], acc, st => inv st ∧ Kc acc st
  | x :: r, acc, st => inv st ∧ g x ε st fun ε1 s1 => tt ε1 s1 fun b s2 => if b = true then te ε1 s2 fun y s3 => qComp inv g tt te ε Kc r (acc ++ [y]) s3 else qComp inv g tt te ε Kc r acc s2
theorem qComp_inv {inv : Sto → Prop} {g : TDg} {tt : TDt} {te : TD} {ε : Env} {Kc : List DV → Sto → Prop} {l acc : List DV} {st : Sto} (h : qComp inv g tt te ε Kc l acc st) : inv st := by
  cases l with
  | nil => exact h.1
  | cons x r => exact h.1
def qLc (m : Bool) (ti : TDi) (g : TDg) (tt : TDt) (te : TD) (vs : List Nat) : TD := fun ε st Q => ti ε st fun items inv s1 => items.length ≤ sizeLine ∧ qComp inv g tt te (wipeD ε vs) (fun acc s2 => newL m acc s2 Q) items [] s1
structure DTs (X : Cx) (ifs : List Expr) (t : TDt) : Prop where
  ex : ∃ te, PTs X ifs te ∧ Sg relT X.K te t
def qYes : TDt := fun _ st Q => Q true st
theorem dts_nil : DTs X [] qYes := ⟨⟨_, pts_nil, fun F σ H ε st Qd Q R E h kk => kk.at R rfl h⟩⟩
theorem dts_one {e : Expr} {t : TDt} (h : DT X e t) : DTs X [e] t := let ⟨te, p, a⟩ := h.ex; ⟨⟨te, pts_one p, a⟩⟩
theorem Cok.blk (c : Cok P w K mg base X N sc fs k) {scope : Scope} (hk : scope.kind = .function) (s : Shared) (H : Hp) (C : Addr) (cl : List (Str × Addr)) (fp : List Addr) :
    Cok P w K mg base (X.blk s H scope (compEnvC scope cl C X.env) fp) N (relS scope sc) scope k where
  hP := c.hP
  hw := c.hw
  hK := c.hK
  hmg := c.hmg
  hb := c.hb
  hN := c.hN
  nd := c.nd
  kind := hk
  hs := by
    show relabel scope X.env = relS scope sc
    have e := c.hs
    unfold relabel relS PySem.Env.kindOf
    rw [e]
  calm := c.calm
  fn := fun x h => by
    show (scope.names.lookup x == some NameKind.cell) = true
    rw [h]
    rfl
  room := c.room
  pass := fun _ _ h => h.elim
theorem comp_sim {wi : TI} {g : TG} {tt : TT} {te : TE} {ti : TDi} {gd : TDg} {ttd : TDt} {ted : TD} {m : Bool} {vs ws : List Nat} (hv : ∀ i ∈ ws, i ∈ vs)
    (a0 : ∀ F σ H ε st Qd R', Rs K F H st → RE K F σ ε → ti ε st Qd → (∀ F' J H' items inv st', Step F H st F' H' st' → Rs K F' H' st' → Src K F' J items inv → Qd items inv st' → R' J H') → wi σ H R')
    (a1 : ∀ F σ H ε st v x Qd Q, Rs K F H st → RE K F σ ε → RV K F v x → gd x ε st Qd → (∀ F' σ' H' ε' st', Step F H st F' H' st' → Rs K F' H' st' → RE K F' σ' ε' → (∀ vs : List Nat, (∀ i ∈ ws, i ∈ vs) → wipe σ' vs = wipe σ vs) → Qd ε' st' → Q σ' H') → g v σ H Q)
    (a2 : Sg relT K tt ttd) (a3 : Sg (RV K) K te ted) : Sg (RV K) K (tLc wi g tt te vs) (qLc m ti gd ttd ted vs) := by
  intro F σ H ε st Qd Q R E h kk
  refine a0 F σ H ε st _ _ R E h fun F1 J H1 items inv st1 s1 R1 src q => ?_
  intro D hD
  obtain ⟨hsz, q⟩ := q
  obtain ⟨f0, d0⟩ := R1.free hD
  obtain ⟨R1', s1'⟩ := R1.hide (o := .lst []) hD
  refine ⟨fun i mm H' => i ≤ items.length ∧ mm = items.length - i ∧ ∃ F' st' acc accD, Step F1 H1 st1 F' H' st' ∧ Rs K F' H' st' ∧ H' D = some (.lst acc) ∧ F' D = none ∧ st' D = none ∧ RVs K F' acc accD ∧ acc.length ≤ i ∧ qComp inv gd ttd ted (wipeD ε vs) (fun acc s2 => newL m acc s2 Qd) (items.drop i) accD st',
    ⟨items.length, Nat.zero_le _, by omega, F1, st1, [], [], s1', R1', upd_same, f0, d0, .nil, Nat.le_refl _, by rw [List.drop_zero]; exact q⟩, ?_⟩
  rintro i mm H2 ⟨hi, rfl, F2, st2, acc, accD, s2, R2, hD2, f2, d2, r2, hl, q2⟩
  have iv := qComp_inv q2
  obtain ⟨src1, src2⟩ := src F2 H2 st2 s2.ex R2 iv
  by_cases hlt : i < items.length
  · have ed : items.drop i = items[i] :: items.drop (i + 1) := List.drop_eq_getElem_cons hlt
    rw [ed] at q2
    obtain ⟨go, yl⟩ := src1 i items[i] (List.getElem?_eq_getElem hlt)
    refine .inr ⟨go, fun H' => ∃ F' st' acc accD, Step F1 H1 st1 F' H' st' ∧ Rs K F' H' st' ∧ H' D = some (.lst acc) ∧ F' D = none ∧ st' D = none ∧ RVs K F' acc accD ∧ acc.length ≤ i + 1 ∧ qComp inv gd ttd ted (wipeD ε vs) (fun acc s2 => newL m acc s2 Qd) (items.drop (i + 1)) accD st',
      fun H' q' => ⟨items.length - (i + 1), by omega, hlt, rfl, q'⟩, fun v H3 y => ?_⟩
    obtain ⟨F3, s3, R3, r3⟩ := yl v H3 y
    have E3 : RE K F3 (wipe σ vs) (wipeD ε vs) := (E.mono (s1.trans (s2.trans s3)).ex).wipe vs
    refine a1 F3 _ H3 _ st2 v items[i] _ _ R3 E3 r3 q2.2 fun F4 σ4 H4 ε4 st4 s4 R4 E4 w4 q4 => ?_
    refine ⟨(w4 vs hv).trans (wipe_idem σ vs), ?_⟩
    refine a2 F4 σ4 H4 ε4 st4 _ _ R4 E4 q4 fun F5 b H5 b' st5 s5 R5 rb q5 => ?_
    cases rb
    have s25 := s2.trans (s3.trans (s4.trans s5))
    obtain ⟨hD5, f5, d5⟩ := (s3.trans (s4.trans s5)).hid hD2 f2 d2
    cases b with
    | true =>
      refine a3 F5 σ4 H5 ε4 st5 _ _ R5 (E4.mono s5.ex) q5 fun F6 y H6 y' st6 s6 R6 ry q6 => ?_
      obtain ⟨hD6, f6, d6⟩ := s6.hid hD5 f5 d5
      refine ⟨acc, hD6, by omega, F6, st6, acc ++ [y], accD ++ [y'], (s25.trans s6).hput hD, R6.hput f6 d6, upd_same, f6, d6, (r2.mono ((s3.trans (s4.trans s5)).trans s6).ex).append (.cons ry .nil), by rw [List.length_append]; simp only [List.length_singleton]; omega, q6⟩
    | false => exact ⟨F5, st5, acc, accD, s25, R5, hD5, f5, d5, r2.mono (s3.trans (s4.trans s5)).ex, by omega, q5⟩
  · have e : i = items.length := by omega
    subst e
    rw [List.drop_length] at q2
    exact .inl ⟨src2, seen_lst s2 hD R2 hD2 f2 d2 r2 q2.2 (kk.step s1)⟩
where
  wipe_idem (σ : L2.St) (vs : List Nat) : wipe (wipe σ vs) vs = wipe σ vs := by
    have h : ∀ us : List Nat, (∀ i ∈ us, i ∈ vs) → wipe (wipe σ us) vs = wipe σ vs := by
      intro us
      induction us with
      | nil => intro _; rfl
      | cons j us ih =>
        intro hu
        show wipe ((wipe σ us).set j none) vs = _
        rw [wipe_set (hu j List.mem_cons_self)]
        exact ih fun i hi => hu i (List.mem_cons_of_mem _ hi)
    exact h vs fun _ z => z
end
end DL
end
section
set_option Elab.async false
set_option linter.all false
set_option maxRecDepth 100000
set_option maxHeartbeats 4000000
namespace DLM
open PySem PySem.Spec
open AutoSeq1 (wpAny_loadPart')
theorem meets_enumerate_newT (l : Addr) (items : Array Value) (n : Nat) (dct : Option Addr) (sl : Array (Option Value)) :
    Meets (Builtin.«enumerate.__new__» ⟨[.type "enumerate", .ref l], []⟩) (fun _ R s => s.heap.get? l = some { cls := .type "tuple", dict := dct, data := .seq items n, slots := sl } ∧
      R (.ok (.ret (.ref (s.heap.push { cls := .type "tuple_iterator", data := .fields #[.ref l, .int 0 0] }).objs.size)))
        { s with heap := (s.heap.push { cls := .type "tuple_iterator", data := .fields #[.ref l, .int 0 0] }).push { cls := .type "enumerate", data := .fields #[.none, .bool false, .ref s.heap.objs.size, rawInt 0, .none, .none] } }) :=
  .of_wp fun prog w A R s h => by
    obtain ⟨hp, g, d, tk, os⟩ := s; obtain ⟨hl, h⟩ := h
    have hsub := sub_enumerate
    have hL : Heap.IsTuple (Shared.heap ⟨hp, g, d, tk, os⟩) l items := ⟨_, hl, rfl, n, rfl⟩
    wp_walk using wpAny_loadPart' hl
    refine wpAny_stack_any fun st => wpAny_pure ?_
    split
    · rename_i c _ _ _ _ _
      cases (c == Value.type "enumerate")
      · wp_walk using wpAny_loadPart' hl, wpAny_pyIter_tuple hL
        exact ⟨_, rfl, h⟩
      · wp_walk using wpAny_loadPart' hl, wpAny_pyIter_tuple hL
        exact ⟨_, rfl, h⟩
    · wp_walk using wpAny_loadPart' hl, wpAny_pyIter_tuple hL
      exact ⟨_, rfl, h⟩
section
variable {prog : Program} {w : World} {A : Around} {E : Value → Shared → Prop} {s : Shared}
theorem call_enumerate_tuple {l : Addr} {items : Array Value} {Q : Value → Shared → Prop} (hL : s.heap.IsTuple l items)
    (h : ∀ h', IsEnum h' (s.heap.objs.size + 1) s.heap.objs.size 0 .none → h'.IsTupleIter s.heap.objs.size l 0 → h'.objs.size = s.heap.objs.size + 2 →
      (∀ b o, s.heap.get? b = some o → h'.get? b = some o) → Q (.ref (s.heap.objs.size + 1)) { s with heap := h' }) :
    wpAny (model prog w) A (call (.type "enumerate") [.ref l]) Q E s := by
  obtain ⟨⟨c, dct, dt, sl⟩, hl, hc, n, hd⟩ := hL
  replace hc : c = .type "tuple" := hc
  replace hd : dt = .seq items n := hd
  subst hc hd
  refine callType_new F.called_enumerate (by decide) (F.typeCall_enumerate_1 _) (F.newCall_enumerate_1 _) (fun obj => F.args_object_init_2 obj _) F.entry_enumerate_new
    (meets_enumerate_newT l items n dct sl) ⟨hl, ?_⟩
  have hz : (s.heap.push { cls := .type "tuple_iterator", data := .fields #[.ref l, .int 0 0] }).objs.size = s.heap.objs.size + 1 := Heap.size_push ..
  show _ ∧ _
  rw [hz]
  have he : IsEnum ((s.heap.push { cls := .type "tuple_iterator", data := .fields #[.ref l, .int 0 0] }).push
      { cls := .type "enumerate", data := .fields #[.none, .bool false, .ref s.heap.objs.size, rawInt 0, .none, .none] }) (s.heap.objs.size + 1) s.heap.objs.size 0 .none := by
    have := Heap.get?_push_size (s.heap.push { cls := .type "tuple_iterator", data := .fields #[.ref l, .int 0 0] })
      (o := { cls := .type "enumerate", data := .fields #[.none, .bool false, .ref s.heap.objs.size, rawInt 0, .none, .none] }) rfl
    rw [hz] at this; exact this
  refine ⟨⟨_, he, rfl⟩, h _ he ⟨_, Heap.get?_push_of_some _ (Heap.get?_push_size _ rfl), rfl, rfl⟩ (by rw [Heap.size_push, hz]) fun b o x => Heap.get?_push_of_some _ (Heap.get?_push_of_some _ x)⟩
end
end DLM
namespace L2
open PySem PySem.Spec PyProof.Rows
def IteT (K : PySem.W.Frag) (a : Addr) : It :=
  ⟨fun i H => ∃ (xs : List V) (x : V), SqT K H a xs ∧ xs[i]? = some x, fun i H v H' => ∃ T x, v = .ref T ∧ H T = none ∧ H' = upd H T (.tup [.int (i : Nat), x]) ∧ ∀ xs, SqT K H a xs → xs[i]? = some x, fun i H => ∃ xs : List V, SqT K H a xs ∧ xs.length ≤ i⟩
theorem turn_enumT {P : Program} {w : World} {K : PySem.W.Frag} {elts : List Expr} {kk : Nat} {tpos : Pos} (a e it : Addr) :
    Turn P w K (.Tuple elts kk tpos) (IteT K a) [e, it] e (fun i h => (∃ old, IsEnum h e it ((i : Nat) : Int) old) ∧ h.IsTupleIter it a i ∧ e ≠ it) where
  mem := by simp
  obj := fun i h st b hb => by
    obtain ⟨⟨old, he⟩, ⟨o, ho, hc, hd⟩, _⟩ := st
    have e' : b = e ∨ b = it := by simpa using hb
    rcases e' with z | z
    · rw [z]; exact ⟨_, he, fun v q => nomatch q⟩
    · rw [z]; exact ⟨o, ho, fun v q => by rw [hd] at q; cases q⟩
  keep := fun i h h' st k => let ⟨⟨old, he⟩, hi, hne⟩ := st; ⟨⟨old, k e (by simp) _ he⟩, hi.at fun o q => k it (by simp) o q, hne⟩
  item := by
    intro X hP hw hK hc i pins s σ H E I hf st hg
    subst hP hw hK
    obtain ⟨⟨old, he⟩, hit, hne⟩ := st
    obtain ⟨xs, x, hq, hx⟩ := hg
    obtain ⟨its, rv, p, hz⟩ := I.tuple hq
    obtain ⟨u, hu, ru⟩ := rv.get hx
    have hel : e < s.heap.objs.size := Heap.lt_size he
    have hil : it < s.heap.objs.size := by obtain ⟨_, q, _⟩ := hit; exact Heap.lt_size q
    have hi : i < its.toArray.size := by
      have := (List.getElem?_eq_some_iff.mp hu).1
      simpa using this
    have hai : a ≠ it := by
      obtain ⟨o1, q1, c1, _⟩ := id p
      obtain ⟨o2, q2, c2, _⟩ := id hit
      intro z
      rw [z, q2] at q1
      cases q1
      rw [c1] at c2
      exact absurd (Value.type.inj c2) (by decide)
    have hae : e ≠ a := by
      obtain ⟨o1, q1, c1, _⟩ := id p
      intro z
      rw [← z, he] at q1
      cases q1
      exact absurd (Value.type.inj c1) (by decide)
    have D := PySem.Draws.tuple (prog := X.prog) (w := X.w) (A := X.A.in1) (I.ok.hd hc) it a hai its.toArray
    refine wpAny_pyNext_enum_itemD D he ⟨hit, p⟩ hi hne (by simp [hne, hae]) fun y h' tk hP ho hst hT hsz hk => ?_
    have ey : y = u := by
      rw [List.getElem?_toArray, hu] at hP
      exact (Option.some.inj hP).symm
    subst ey
    refine ⟨_, rfl, wpAny_letOwnedTupleGo_enum (s := { s with heap := h', toks := tk + 1 }) ho fun h'' he' sb => ?_⟩
    have hT2 : h''.get? s.heap.objs.size = some { cls := .type "tuple", data := .seq #[.int i tk, y] } := (sb.2 _ (Nat.ne_of_gt hel)).trans hT
    have new : ObjOk X.prog X.w (upd H s.heap.objs.size (.tup [.int (i : Nat), x])) h'' s.heap.objs.size (.tup [.int (i : Nat), x]) :=
      ⟨by show 2 ≤ sizeLine; decide, [.int i tk, y], .cons ⟨_, rfl⟩ (.cons ru .nil), ⟨_, hT2, rfl, _, rfl⟩⟩
    have I1 : Inv X pins σ (upd H s.heap.objs.size (.tup [.int (i : Nat), x])) { s with heap := h'', toks := tk + 1 } :=
      I.turnedNew (ch := [e, it]) (fun b ob hb q => (sb.2 b (fun z => hb (by simp [z]))).trans (hk b ob (fun z => hb (by simp [z])) (fun z => hb (by simp [z])) q)) hf (Nat.le_refl _) new
    refine ⟨.ref s.heap.objs.size, _, I1, rfl, ⟨_, x, rfl, I.hok.fresh (Nat.le_refl _), rfl, fun ys hy => by rw [I.tuple_inj hy hq]; exact hx⟩, ⟨⟨y, ?_⟩, hst.1.at fun o q => (sb.2 it (Ne.symm hne)).trans q, hne⟩, fun b hb => ?_⟩
    · have e1 : ((i + 1 : Nat) : Int) = (i : Int) + 1 := by omega
      rw [e1]; exact he'
    · have hb' : b < s.heap.objs.size := by
        have e' : b = e ∨ b = it := by simpa using hb
        rcases e' with z | z
        · rw [z]; exact hel
        · rw [z]; exact hil
      rw [upd_ne (Nat.ne_of_lt hb')]
      exact (hf b hb).1
  done := by
    intro X hP hw hK hc i pins s σ H E I hf st hg
    subst hP hw hK
    obtain ⟨⟨old, he⟩, hit, hne⟩ := st
    obtain ⟨xs, hq, hx⟩ := hg
    obtain ⟨its, rv, p, hz⟩ := I.tuple hq
    obtain ⟨f0, f1, f2, f3, f4, f5⟩ := hf it (by simp)
    have hl := rv.length
    have hT : s.TypeIs (.ref e) "enumerate" := ⟨_, he, rfl⟩
    unfold pyNext
    refine wpAny_bind (wpAny_attempt (wpAny_callSpecial?_slot (name := Str.ofString "__next__") hT F.slot_enumerate_next
      (wpAny_call_entry F.slot_enumerate_next hT F.entry_enumerate_next ?_ (F.args_enumerate_next_1 _))))
    show wpAny _ _ (field (.ref e) 2 >>= _) _ _ _
    refine wpAny_bind (wpAny_field he rfl (x := .ref it) rfl ?_)
    refine wpAny_bind (wpAny_nextOf_tuple_end (I.ok.hd hc) hit p (by simp; omega) fun h' y he' hx' => ?_)
    obtain ⟨o, ho, hc⟩ := hx'
    refine wpAny_bind (wpAny_isInstance (T := "StopIteration") (b := true) ⟨o, ho, hc⟩ isSubtype_stop ?_)
    exact wpAny_pure ⟨rfl, I.turned (t' := s.toks) (fun b o hb q => he' b o hb q) f0 f1 f3 f4 f5⟩
  self := fun A i s Q E st h => let ⟨⟨_, he⟩, _⟩ := st; wpAny_pyIter_enum he h
def iEnumA (K : PySem.W.Frag) (ta : TA) : TI := fun σ H R => ta σ H fun vs H1 => ∃ a xs, vs = [.ref a] ∧ ((SqL K H1 a xs ∧ R (Ite K a) H1) ∨ (SqT K H1 a xs ∧ R (IteT K a) H1))
theorem pi_enumA {X : Cx} {e : Expr} {ta : TA} {p pos tpos : Pos} {elts : List Expr} {kk : Nat} (hg : Gl X "enumerate") (hm : X.mg "enumerate" = none) (ha : PA X [e] ta) (hs : starEach [e] X.env = [(false, eval e X.env)] := by rfl) :
    PI X (.Tuple elts kk tpos) (.Call (.Name "enumerate" p) [e] [] pos) (iEnumA X.K ta) := by
  refine ⟨fun pins s σ H R I h => ?_⟩
  refine Call_ (ld_blt I hg hm boot_enumerate (PyProof.Rows.callWith_type1 (thn (ha.run pos pins s σ H _ I h) fun us s1 ⟨vs, H1, I1, r1, q1⟩ => ?_) hs rfl))
  obtain ⟨a, xs, ex, q⟩ := q1
  subst ex
  cases r1 with
  | cons r rr =>
    cases rr
    cases r
    have fresh2 : ∀ b, b ∈ [s1.heap.objs.size + 1, s1.heap.objs.size] → FpOk X pins H1 b := fun b hb => by
      have e' : b = s1.heap.objs.size + 1 ∨ b = s1.heap.objs.size := by simpa using hb
      have hle : s1.heap.objs.size ≤ b := by
        rcases e' with z | z
        · rw [z]; exact Nat.le_add_right _ _
        · rw [z]; exact Nat.le_refl _
      exact I1.fpOk hle (I1.hok.fresh hle)
    rcases q with ⟨hq, q⟩ | ⟨hq, q⟩
    · obtain ⟨its, rv, p', hz⟩ := I1.list hq
      refine call_enumerate_list p'.isList fun h' he hit hsz hk => wpAny_pyIter_enum he ?_
      have I2 : Inv X pins σ H1 { s1 with heap := h' } := I1.kept (t' := s1.toks) hk
      exact ⟨s1.heap.objs.size + 1, [s1.heap.objs.size + 1, s1.heap.objs.size], _, _, H1, rfl, I2, turn_enum a (s1.heap.objs.size + 1) s1.heap.objs.size, ⟨⟨.none, he⟩, hit, Nat.succ_ne_self _⟩, fresh2, q⟩
    · obtain ⟨its, rv, p', hz⟩ := I1.tuple hq
      refine DLM.call_enumerate_tuple (show s1.heap.IsTuple a its.toArray from p') fun h' he hit hsz hk => wpAny_pyIter_enum he ?_
      have I2 : Inv X pins σ H1 { s1 with heap := h' } := I1.kept (t' := s1.toks) hk
      exact ⟨s1.heap.objs.size + 1, [s1.heap.objs.size + 1, s1.heap.objs.size], _, _, H1, rfl, I2, turn_enumT a (s1.heap.objs.size + 1) s1.heap.objs.size, ⟨⟨.none, he⟩, hit, Nat.succ_ne_self _⟩, fresh2, q⟩
def iSeq (K : PySem.W.Frag) (tl : TE) : TI := fun σ H R => tl σ H fun x H1 => ∃ a xs, x = .ref a ∧ ((SqL K H1 a xs ∧ R (Itl K a) H1) ∨ (SqT K H1 a xs ∧ R (Itt K a) H1))
theorem pi_seq {X : Cx} {tg l : Expr} {tl : TE} (hl : PE X l tl) : PI X tg l (iSeq X.K tl) := by
  refine ⟨fun pins s σ H R I h => ?_⟩
  refine thn (hl.run pins s σ H _ I h) fun v s1 ⟨x, H1, I1, r1, q1⟩ => ?_
  obtain ⟨a, xs, e, q⟩ := q1
  subst e
  cases r1
  have fresh1 : ∀ b, b ∈ [s1.heap.objs.size] → FpOk X pins H1 b := fun b hb => by
    have e : b = s1.heap.objs.size := by simpa using hb
    subst e
    exact I1.fpOk (Nat.le_refl _) (I1.hok.fresh (Nat.le_refl _))
  rcases q with ⟨hq, q⟩ | ⟨hq, q⟩
  · obtain ⟨its, rv, p, hz⟩ := I1.list hq
    refine wpAny_pyIter_list p.isList ?_
    exact ⟨s1.heap.objs.size, [s1.heap.objs.size], _, _, H1, rfl, I1.kept (t' := s1.toks) fun b o e => Heap.get?_push_of_some _ e, turn_list a _, ⟨_, Heap.get?_push_size _ rfl, rfl, rfl⟩, fresh1, q⟩
  · obtain ⟨its, rv, p, hz⟩ := I1.tuple hq
    refine wpAny_pyIter_tuple (show s1.heap.IsTuple a its.toArray from p) ?_
    exact ⟨s1.heap.objs.size, [s1.heap.objs.size], _, _, H1, rfl, I1.kept (t' := s1.toks) fun b o e => Heap.get?_push_of_some _ e, turn_tuple a _, ⟨_, Heap.get?_push_size _ rfl, rfl, rfl⟩, fresh1, q⟩
end L2
end
section
set_option Elab.async false
set_option linter.all false
set_option maxRecDepth 100000
set_option maxHeartbeats 4000000
namespace DL
open PySem L2 PyProof.Rows
section
variable {P : Program} {w : World} {K : PySem.W.Frag} {mg : Str → Option Value} {base : Heap} {X : Cx} {N : List Str} {sc fs : Scope} {k : Nat}
theorem gl_of {x : Str} (c : Cok P w K mg base X N sc fs k) (h : glB sc x = true) : Gl X x ∧ x ≠ "__name__" ∧ (x == ("__debug__" : Str)) = false := by
  unfold glB at h
  simp only [Bool.and_eq_true, Bool.not_eq_true'] at h
  obtain ⟨⟨h1, h2⟩, h3⟩ := h
  refine ⟨?_, fun e => ?_, h2⟩
  · show X.env.kindOf x = some .globalImplicit
    rw [kindOf_S c]
    show sc.names.lookup x = _
    split at h1
    · assumption
    · cases h1
  · subst e
    exact absurd h3 (by decide)
def lsrc (st : Sto) : DV → Option (List DV × (Sto → Prop))
  | .d (.list xs) => some (xs.map .d, fun _ => True)
  | .r a => match st a with | some (.lst xs) => some (xs, fun s => s a = some (.lst xs)) | _ => none
  | _ => none
theorem lsrc_at {F0 H0 : Hp} {st0 : Sto} {v : V} {x : DV} {xs : List DV} {inv : Sto → Prop} (R0 : Rs K F0 H0 st0) (r : RV K F0 v x) (h : lsrc st0 x = some (xs, inv)) :
    ∃ a, v = .ref a ∧ (∃ vs, SqL K H0 a vs) ∧ inv st0 ∧ ∀ F H st, (∀ a o, F0 a = some o → F a = some o) → Rs K F H st → inv st → ∃ vs, SqL K H a vs ∧ RVs K F vs xs := by
  cases x with
  | d z =>
    cases z with
    | list ds =>
      cases h
      cases r with
      | d r =>
        cases r with
        | lst q s => exact ⟨_, rfl, ⟨_, SqL.mono (Rs.ex F0 H0 st0 R0) q⟩, True.intro, fun F H st e R _ => ⟨_, SqL.mono (fun a o z => Rs.ex F H st R a o (e a o z)) q, (s.mono e).rvs⟩⟩
    | _ => cases h
  | t ys => cases h
  | r a =>
    cases r
    unfold lsrc at h
    simp only at h
    cases e : st0 a with
    | none => rw [e] at h; cases h
    | some m =>
      rw [e] at h
      cases m with
      | lst ys =>
        cases h
        obtain ⟨vs, q, s⟩ := R0.ok a _ e
        refine ⟨a, rfl, ⟨vs, SqL.of q⟩, e, fun F H st _ R iv => ?_⟩
        obtain ⟨vs, q, s⟩ := R.ok a _ iv
        exact ⟨vs, SqL.of q, s⟩
      | dK _ => cases h
      | dT _ => cases h
      | ins _ _ => cases h
      | lk _ _ _ => cases h
theorem tsrc_at {F0 H0 : Hp} {st0 : Sto} {v : V} {x : DV} {xs : List DV} (R0 : Rs K F0 H0 st0) (r : RV K F0 v x) (h : titems x = some xs) :
    ∃ a, v = .ref a ∧ (∃ vs, SqT K H0 a vs) ∧ ∀ F H st, (∀ a o, F0 a = some o → F a = some o) → Rs K F H st → ∃ vs, SqT K H a vs ∧ RVs K F vs xs := by
  obtain ⟨a, vs, e, q, s⟩ := titems_rv r h
  exact ⟨a, e, ⟨vs, SqT.of (R0.sub _ _ q).1⟩, fun F H st e R => ⟨vs, SqT.of (R.sub _ _ (e _ _ q)).1, s.mono e⟩⟩
def seqSrc (st : Sto) (x : DV) : Option (List DV × (Sto → Prop)) := match titems x with | some xs => some (xs, fun _ => True) | none => lsrc st x
def qiSeq (te : TD) : TDi := fun ε st Q => te ε st fun x s1 => match seqSrc s1 x with | some (its, inv) => Q its inv s1 | none => False
theorem di_seq {tg e : Expr} {te : TD} (h : DE X e te) : DI X tg e (qiSeq te) := by
  obtain ⟨t1, p, a⟩ := h
  refine ⟨⟨_, pi_seq p, fun F σ H ε st Qd R' R E h kk => ?_⟩⟩
  refine a F σ H ε st _ _ R E h fun F1 v H1 x s1 t1 R1 r q => ?_
  split at q
  rotate_left
  · exact q.elim
  rename_i its inv es
  unfold seqSrc at es
  split at es
  · rename_i xs ex
    cases es
    obtain ⟨a, rfl, ⟨vs, hv⟩, hs⟩ := tsrc_at R1 r ex
    refine ⟨a, vs, rfl, .inr ⟨hv, kk F1 _ H1 its _ s1 t1 R1 (fun F H st e R iv => ?_) q⟩⟩
    obtain ⟨vs, hv, s⟩ := hs F H st e R
    refine ⟨fun i y hy => ?_, vs, hv, Nat.le_of_eq s.length⟩
    obtain ⟨u, hu, ru⟩ := s.get' hy
    refine ⟨⟨vs, u, hv, hu⟩, fun v H' ⟨e1, e2⟩ => ?_⟩
    subst e1
    have := e2 vs hv
    rw [hu] at this
    cases this
    exact ⟨F, Step.refl _ _ _, R, ru⟩
  · obtain ⟨a, rfl, ⟨vs, hv⟩, iv0, hs⟩ := lsrc_at R1 r es
    refine ⟨a, vs, rfl, .inl ⟨hv, kk F1 _ H1 its _ s1 t1 R1 (fun F H st e R iv => ?_) q⟩⟩
    obtain ⟨vs, hv, s⟩ := hs F H st e R iv
    refine ⟨fun i y hy => ?_, vs, hv, Nat.le_of_eq s.length⟩
    obtain ⟨u, hu, ru⟩ := s.get' hy
    refine ⟨⟨vs, u, hv, hu⟩, fun v H' ⟨e1, e2⟩ => ?_⟩
    subst e1
    have := e2 vs hv
    rw [hu] at this
    cases this
    exact ⟨F, Step.refl _ _ _, R, ru⟩
def rngD (lo : Int) (n : Nat) : List DV := (List.range n).map fun (i : Nat) => .d (.int (lo + (i : Int)))
theorem rng_src {F0 : Hp} (lo : Int) (n : Nat) : Src K F0 (Itr lo n) (rngD lo n) (fun _ => True) := fun F H st e R iv => by
  unfold rngD
  refine ⟨fun i x hx => ?_, by simp [Itr]⟩
  rw [List.getElem?_map] at hx
  by_cases hlt : i < n
  · rw [List.getElem?_range hlt] at hx
    cases hx
    refine ⟨hlt, fun v H' ⟨e1, e2⟩ => ?_⟩
    subst e1 e2
    exact ⟨F, Step.refl _ _ _, R, .d (.int _)⟩
  · rw [List.getElem?_eq_none (by rw [List.length_range]; omega)] at hx
    cases hx
def qiRng1 (ta : TDa) : TDi := fun ε st Q => ta ε st fun vs s1 => match vs with
  | [.d (.int j)] => -(2 ^ 62) ≤ j ∧ j < 2 ^ 62 ∧ Q (rngD 0 j.toNat) (fun _ => True) s1
  | _ => False
def qiRng2 (ta : TDa) : TDi := fun ε st Q => ta ε st fun vs s1 => match vs with
  | [.d (.int i), .d (.int j)] => (-(2 ^ 62) ≤ i ∧ i < 2 ^ 62 ∧ -(2 ^ 62) ≤ j ∧ j < 2 ^ 62) ∧ Q (rngD i (j - i).toNat) (fun _ => True) s1
  | _ => False
theorem di_rng1 {tg a : Expr} {ta : TDa} {p pos : Pos} (c : Cok P w K mg base X N sc fs k) (hg : glB sc "range" = true) (hm : mg "range" = none) (h : DA X [a] ta) (hs : starEach [a] X.env = [(false, eval a X.env)] := by rfl) : DI X tg (.Call (.Name "range" p) [a] [] pos) (qiRng1 ta) := by
  obtain ⟨t1, p1, a1⟩ := h
  refine ⟨⟨_, pi_range1 (gl_of c hg).1 (by rw [c.hmg]; exact hm) p1 hs, fun F σ H ε st Qd R' R E h kk => ?_⟩⟩
  refine a1 F σ H ε st _ _ R E h fun F1 vs H1 xs s1 t1 R1 r q => ?_
  split at q
  · cases r with
    | cons r rr =>
      cases rr
      cases rv_int r
      exact ⟨_, rfl, q.1, q.2.1, kk F1 _ H1 _ _ s1 t1 R1 (rng_src 0 _) q.2.2⟩
  · exact q.elim
theorem di_rng2 {tg a b : Expr} {ta : TDa} {p pos : Pos} (c : Cok P w K mg base X N sc fs k) (hg : glB sc "range" = true) (hm : mg "range" = none) (h : DA X [a, b] ta) (hs : starEach [a, b] X.env = [(false, eval a X.env), (false, eval b X.env)] := by rfl) (hs2 : starEach [b] X.env = [(false, eval b X.env)] := by rfl) : DI X tg (.Call (.Name "range" p) [a, b] [] pos) (qiRng2 ta) := by
  obtain ⟨t1, p1, a1⟩ := h
  refine ⟨⟨_, pi_range2 (gl_of c hg).1 (by rw [c.hmg]; exact hm) p1 hs hs2, fun F σ H ε st Qd R' R E h kk => ?_⟩⟩
  refine a1 F σ H ε st _ _ R E h fun F1 vs H1 xs s1 t1 R1 r q => ?_
  split at q
  · cases r with
    | cons r rr =>
      cases rr with
      | cons r2 rr =>
        cases rr
        cases rv_int r
        cases rv_int r2
        exact ⟨_, _, rfl, q.1, kk F1 _ H1 _ _ s1 t1 R1 (rng_src _ _) q.2⟩
  · exact q.elim
def zipD (xs ys : List DV) : List DV := List.zipWith (fun x y => mkT [x, y]) xs ys
theorem pair_src {F H : Hp} {st : Sto} {T : Addr} {u1 u2 : V} {x y : DV} (R : Rs K F H st) (hT : H T = none) (r1 : RV K F u1 x) (r2 : RV K F u2 y) :
    ∃ F', Step F H st F' (upd H T (.tup [u1, u2])) st ∧ Rs K F' (upd H T (.tup [u1, u2])) st ∧ RV K F' (.ref T) (mkT [x, y]) := by
  obtain ⟨R', t⟩ := R.frz (o := .tup [u1, u2]) hT
  exact ⟨_, t, R', mkT_rv upd_same (.cons (r1.mono t.ex) (.cons (r2.mono t.ex) .nil))⟩
def qiZip (ta : TDa) : TDi := fun ε st Q => ta ε st fun vs s1 => match vs with
  | [x, y] => match titems x, titems y with
    | some xs, some ys => Q (zipD xs ys) (fun _ => True) s1
    | _, _ => match lsrc s1 x, lsrc s1 y with
      | some (xs, inv1), some (ys, inv2) => Q (zipD xs ys) (fun s => inv1 s ∧ inv2 s) s1
      | _, _ => False
  | _ => False
theorem di_zip {e e2 : Expr} {ta : TDa} {p pos tpos : Pos} {elts : List Expr} {kk' : Nat} (c : Cok P w K mg base X N sc fs k) (hg : glB sc "zip" = true) (hm : mg "zip" = none) (h : DA X [e, e2] ta)
    (hs : starEach [e, e2] X.env = (false, eval e X.env) :: starEach [e2] X.env := by rfl) (hpl : (backTo pos (starEach [e2] X.env)).any (·.1) = false := by rfl) : DI X (.Tuple elts kk' tpos) (.Call (.Name "zip" p) [e, e2] [] pos) (qiZip ta) := by
  obtain ⟨t1, p1, a1⟩ := h
  refine ⟨⟨_, RZ.pi_zipA (gl_of c hg).1 (by rw [c.hmg]; exact hm) p1 hs hpl, fun F σ H ε st Qd R' R E h kk => ?_⟩⟩
  refine a1 F σ H ε st _ _ R E h fun F1 vs H1 xs s1 t1 R1 r q => ?_
  split at q
  · cases r with
    | cons r rr =>
      cases rr with
      | cons r2 rr =>
        cases rr
        split at q
        · rename_i xs ys ex ey
          obtain ⟨a, rfl, ⟨vs, hv⟩, h1⟩ := tsrc_at R1 r ex
          obtain ⟨b, rfl, ⟨ws, hw⟩, h2⟩ := tsrc_at R1 r2 ey
          refine ⟨a, b, vs, ws, rfl, .inr ⟨hv, hw, kk F1 _ H1 _ _ s1 t1 R1 (fun F H st e R iv => ?_) q⟩⟩
          obtain ⟨vs, hv, s⟩ := h1 F H st e R
          obtain ⟨ws, hw, s2⟩ := h2 F H st e R
          refine ⟨fun i z hz => ?_, vs, ws, hv, hw, ?_⟩
          · unfold zipD at hz
            rw [List.getElem?_zipWith] at hz
            cases hx : xs[i]? with
            | none => simp [hx] at hz
            | some x =>
              cases hy : ys[i]? with
              | none => simp [hx, hy] at hz
              | some y =>
                simp [hx, hy] at hz
                subst hz
                obtain ⟨u, hu, ru⟩ := s.get' hx
                obtain ⟨u2, hu2, ru2⟩ := s2.get' hy
                refine ⟨⟨vs, ws, u, u2, hv, hw, hu, hu2⟩, fun v H' ⟨T, x', y', e1, hT, e2, h3, h4⟩ => ?_⟩
                subst e1 e2
                have q1 := h3 vs hv
                have q2 := h4 ws hw
                rw [hu] at q1
                rw [hu2] at q2
                cases q1
                cases q2
                exact pair_src R hT ru ru2
          · have l1 := s.length
            have l2 := s2.length
            unfold zipD
            rw [List.length_zipWith]
            omega
        · split at q
          rotate_left
          · exact q.elim
          rename_i xs inv1 ys inv2 ex ey
          obtain ⟨a, rfl, ⟨vs, hv⟩, i1, h1⟩ := lsrc_at R1 r ex
          obtain ⟨b, rfl, ⟨ws, hw⟩, i2, h2⟩ := lsrc_at R1 r2 ey
          refine ⟨a, b, vs, ws, rfl, .inl ⟨hv, hw, kk F1 _ H1 _ _ s1 t1 R1 (fun F H st e R iv => ?_) q⟩⟩
          obtain ⟨vs, hv, s⟩ := h1 F H st e R iv.1
          obtain ⟨ws, hw, s2⟩ := h2 F H st e R iv.2
          refine ⟨fun i z hz => ?_, vs, ws, hv, hw, ?_⟩
          · unfold zipD at hz
            rw [List.getElem?_zipWith] at hz
            cases hx : xs[i]? with
            | none => simp [hx] at hz
            | some x =>
              cases hy : ys[i]? with
              | none => simp [hx, hy] at hz
              | some y =>
                simp [hx, hy] at hz
                subst hz
                obtain ⟨u, hu, ru⟩ := s.get' hx
                obtain ⟨u2, hu2, ru2⟩ := s2.get' hy
                refine ⟨⟨vs, ws, u, u2, hv, hw, hu, hu2⟩, fun v H' ⟨T, x', y', e1, hT, e2, h3, h4⟩ => ?_⟩
                subst e1 e2
                have q1 := h3 vs hv
                have q2 := h4 ws hw
                rw [hu] at q1
                rw [hu2] at q2
                cases q1
                cases q2
                exact pair_src R hT ru ru2
          · have l1 := s.length
            have l2 := s2.length
            unfold zipD
            rw [List.length_zipWith]
            omega
  · exact q.elim
def enumD (xs : List DV) : List DV := xs.mapIdx fun i x => mkT [.d (.int (i : Int)), x]
def qiEnum (ta : TDa) : TDi := fun ε st Q => ta ε st fun vs s1 => match vs with
  | [x] => (match seqSrc s1 x with | some (xs, inv) => Q (enumD xs) inv s1 | none => False)
  | _ => False
theorem enum_at {xs : List DV} {i : Nat} {z : DV} (h : (enumD xs)[i]? = some z) : ∃ x, xs[i]? = some x ∧ z = mkT [.d (.int (i : Int)), x] := by
  unfold enumD at h
  rw [List.getElem?_mapIdx] at h
  cases e : xs[i]? with
  | none => simp [e] at h
  | some x => simp [e] at h; exact ⟨x, rfl, h.symm⟩
theorem di_enum {e : Expr} {ta : TDa} {p pos tpos : Pos} {elts : List Expr} {kk' : Nat} (c : Cok P w K mg base X N sc fs k) (hg : glB sc "enumerate" = true) (hm : mg "enumerate" = none) (h : DA X [e] ta) (hs : starEach [e] X.env = [(false, eval e X.env)] := by rfl) : DI X (.Tuple elts kk' tpos) (.Call (.Name "enumerate" p) [e] [] pos) (qiEnum ta) := by
  obtain ⟨t1, p1, a1⟩ := h
  refine ⟨⟨_, pi_enumA (gl_of c hg).1 (by rw [c.hmg]; exact hm) p1 hs, fun F σ H ε st Qd R' R E h kk => ?_⟩⟩
  refine a1 F σ H ε st _ _ R E h fun F1 vs H1 xs s1 t1 R1 r q => ?_
  split at q
  · cases r with
    | cons r rr =>
      cases rr
      split at q
      rotate_left
      · exact q.elim
      rename_i xs inv es
      unfold seqSrc at es
      split at es
      · rename_i ys ex
        cases es
        obtain ⟨a, rfl, ⟨vs, hv⟩, h1⟩ := tsrc_at R1 r ex
        refine ⟨a, vs, rfl, .inr ⟨hv, kk F1 _ H1 _ _ s1 t1 R1 (fun F H st e R iv => ?_) q⟩⟩
        obtain ⟨vs, hv, s⟩ := h1 F H st e R
        refine ⟨fun i z hz => ?_, vs, hv, by unfold enumD; rw [List.length_mapIdx]; exact Nat.le_of_eq s.length⟩
        obtain ⟨x, hx, rfl⟩ := enum_at hz
        obtain ⟨u, hu, ru⟩ := s.get' hx
        refine ⟨⟨vs, u, hv, hu⟩, fun v H' ⟨T, x', e1, hT, e2, h3⟩ => ?_⟩
        subst e1 e2
        have q1 := h3 vs hv
        rw [hu] at q1
        cases q1
        exact pair_src R hT (.d (.int _)) ru
      · obtain ⟨a, rfl, ⟨vs, hv⟩, i1, h1⟩ := lsrc_at R1 r es
        refine ⟨a, vs, rfl, .inl ⟨hv, kk F1 _ H1 _ _ s1 t1 R1 (fun F H st e R iv => ?_) q⟩⟩
        obtain ⟨vs, hv, s⟩ := h1 F H st e R iv
        refine ⟨fun i z hz => ?_, vs, hv, by unfold enumD; rw [List.length_mapIdx]; exact Nat.le_of_eq s.length⟩
        obtain ⟨x, hx, rfl⟩ := enum_at hz
        obtain ⟨u, hu, ru⟩ := s.get' hx
        refine ⟨⟨vs, u, hv, hu⟩, fun v H' ⟨T, x', e1, hT, e2, h3⟩ => ?_⟩
        subst e1 e2
        have q1 := h3 vs hv
        rw [hu] at q1
        cases q1
        exact pair_src R hT (.d (.int _)) ru
  · exact q.elim
/-- the reading that a data reading gives, whatever the context is -/
def lift {α β : Type} (rel : Hp → α → β → Prop) (K : PySem.W.Frag) (t : Env → Sto → (β → Sto → Prop) → Prop) : L2.St → Hp → (α → Hp → Prop) → Prop := fun σ H Q => ∃ F ε st Qd, Rs K F H st ∧ RE K F σ ε ∧ t ε st Qd ∧ Kg rel K F H st Qd Q
theorem lift_sg {α β : Type} {rel : Hp → α → β → Prop} {t : Env → Sto → (β → Sto → Prop) → Prop} : Sg rel K (lift rel K t) t := fun F σ H ε st Qd Q R E h kk => ⟨F, ε, st, Qd, R, E, h, kk⟩
theorem DE.lift {e : Expr} {t : TD} (h : DE X e t) : PE X e (DL.lift (RV X.K) X.K t) := by
  obtain ⟨te, p, a⟩ := h
  exact ⟨fun pins s σ H Q I ⟨F, ε, st, Qd, R, E, h, kk⟩ => p.run pins s σ H Q I (a F σ H ε st Qd Q R E h kk)⟩
theorem DTs.lift {e : List Expr} {t : TDt} (h : DTs X e t) : PTs X e (DL.lift relT X.K t) := by
  obtain ⟨te, p, a⟩ := h
  exact ⟨fun pins s σ H Q I ⟨F, ε, st, Qd, R, E, h, kk⟩ => p.run pins s σ H Q I (a F σ H ε st Qd Q R E h kk)⟩
def liftG (K : PySem.W.Frag) (ws : List Nat) (t : TDg) : TG := fun v σ H Q => ∃ F ε st x Qd, Rs K F H st ∧ RE K F σ ε ∧ RV K F v x ∧ t x ε st Qd ∧
  ∀ F' σ' H' ε' st', Step F H st F' H' st' → Rs K F' H' st' → RE K F' σ' ε' → (∀ vs : List Nat, (∀ i ∈ ws, i ∈ vs) → wipe σ' vs = wipe σ vs) → Qd ε' st' → Q σ' H'
theorem DG.lift {e : Expr} {ws : List Nat} {t : TDg} (h : DG X e ws t) : PG X e (liftG X.K ws t) := by
  obtain ⟨te, p, a⟩ := h
  exact ⟨fun pins s σ H v u Q I r ⟨F, ε, st, x, Qd, R, E, rv, h, kk⟩ => p.run pins s σ H v u Q I r (a F σ H ε st v x Qd Q R E rv h kk)⟩
def liftI (K : PySem.W.Frag) (t : TDi) : TI := fun σ H R' => ∃ F ε st Qd, Rs K F H st ∧ RE K F σ ε ∧ t ε st Qd ∧ ∀ F' J H' items inv st', Step F H st F' H' st' → Rs K F' H' st' → Src K F' J items inv → Qd items inv st' → R' J H'
theorem DI.lift {tg e : Expr} {t : TDi} (h : DI X tg e t) : PI X tg e (liftI X.K t) := by
  obtain ⟨te, p, a⟩ := h
  exact ⟨fun pins s σ H R' I ⟨F, ε, st, Qd, R, E, h, kk⟩ => p.run pins s σ H R' I (a F σ H ε st Qd R' R E h kk)⟩
theorem de_lc {elt tg iter : Expr} {ifs : List Expr} {scope : Scope} {pos : Pos} {ti : TDi} {g : TDg} {tt : TDt} {te : TD} {ws : List Nat} (m : Bool) (own : List (Str × Nat)) (c : Cok P w K mg base X N sc fs k) (hb : blkC N sc scope own = true) (hw : ∀ i ∈ ws, i ∈ own.map (·.2)) (hi : DI X tg iter ti)
    (hg : ∀ X', Cok P w K mg base X' N (relS scope sc) scope k → DG X' tg ws g) (ht : ∀ X', Cok P w K mg base X' N (relS scope sc) scope k → DTs X' ifs tt) (he : ∀ X', Cok P w K mg base X' N (relS scope sc) scope k → DE X' elt te)
    (hs : ∀ x, foldedSetIterable iter X.env x = pure x := by intro _; rfl) : DE X (.ListComp elt [⟨tg, iter, ifs, 0⟩] scope pos) (qLc m ti g tt te (own.map (·.2))) := by
  have ok : BlkOk X.N X.env.scope scope own := by
    rw [c.hN, c.hs]
    exact blkOk_by hb
  have cb := fun s H C cl fp => c.blk (scope := scope) ok.kind s H C cl fp
  obtain ⟨wi, p0, a0⟩ := hi
  refine ⟨⟨_, pe_lc (g := liftG X.K ws g) (tt := DL.lift relT X.K tt) (te := DL.lift (RV X.K) X.K te) c.calm (by rw [c.hN]; exact c.nd) p0 ok (fun s H C cl fp => (hg _ (cb s H C cl fp)).lift) (fun s H C cl fp => (ht _ (cb s H C cl fp)).lift) (fun s H C cl fp => (he _ (cb s H C cl fp)).lift) hs,
    comp_sim hw a0 (fun F σ H ε st v x Qd Q R E r q kk => ⟨F, ε, st, x, Qd, R, E, r, q, kk⟩) lift_sg lift_sg⟩⟩
/-- name = [..] on one line -/
def setLcB (N : List Str) (sc : Scope) (i : Nat) (y : Str) : Bool := decide (N[i]? = some y) && decide (sc.names.lookup y = some .local)
theorem ds_setLc {elt tg iter : Expr} {ifs : List Expr} {scope : Scope} {i : Nat} {y : Str} {py pos spos : Pos} {ti : TDi} {g : TDg} {tt : TDt} {te : TD} {ws : List Nat} (m : Bool) (own : List (Str × Nat)) (c : Cok P w K mg base X N sc fs k) (hy : setLcB N sc i y = true)
    (hsw : swapsWith (.ListComp elt [⟨tg, iter, ifs, 0⟩] scope pos) (some (.Name y py)) spos.line (envS sc) = pure true) (hb : blkC N sc scope own = true) (hw : ∀ i ∈ ws, i ∈ own.map (·.2)) (hi : DI X tg iter ti)
    (hg : ∀ X', Cok P w K mg base X' N (relS scope sc) scope k → DG X' tg ws g) (ht : ∀ X', Cok P w K mg base X' N (relS scope sc) scope k → DTs X' ifs tt) (he : ∀ X', Cok P w K mg base X' N (relS scope sc) scope k → DE X' elt te)
    (hs : ∀ x, foldedSetIterable iter X.env x = pure x := by intro _; rfl) : DS X (.Assign [.Name y py] (.ListComp elt [⟨tg, iter, ifs, 0⟩] scope pos) spos) (qAsg (qLc m ti g tt te (own.map (·.2))) (qgN i)) := by
  unfold setLcB at hy
  simp only [Bool.and_eq_true, decide_eq_true_eq] at hy
  have ok : BlkOk X.N X.env.scope scope own := by
    rw [c.hN, c.hs]
    exact blkOk_by hb
  have cb := fun s H C cl fp => c.blk (scope := scope) ok.kind s H C cl fp
  obtain ⟨wi, p0, a0⟩ := hi
  refine ⟨⟨_, ps_setLc (i := i) (g := liftG X.K ws g) (tt := DL.lift relT X.K tt) (te := DL.lift (RV X.K) X.K te) c.calm (by rw [c.hN]; exact c.nd) (by rw [c.hN]; exact hy.1) (by rw [c.hs]; exact hy.2) ((swaps_S c _ _ _).trans hsw) p0 ok (fun s H C cl fp => (hg _ (cb s H C cl fp)).lift) (fun s H C cl fp => (ht _ (cb s H C cl fp)).lift) (fun s H C cl fp => (he _ (cb s H C cl fp)).lift) hs,
    fun F σ H ε st Dd D R E h kk => ?_⟩⟩
  refine comp_sim (K := X.K) hw a0 (fun F σ H ε st v x Qd Q R E r q kk => ⟨F, ε, st, x, Qd, R, E, r, q, kk⟩) lift_sg lift_sg F σ H ε st _ _ R E h fun F1 v H1 x st1 s1 R1 r q => ?_
  exact kk.nx F1 _ H1 _ st1 s1 R1 ((E.mono s1.ex).set r i) q
abbrev SpD := List DV → Sto → (DV → Sto → Prop) → Prop
def hsp (K : PySem.W.Frag) (sp : SpD) : Sp := fun vs H Q _ => ∃ F st xs Qd, Rs K F H st ∧ RVs K F vs xs ∧ sp xs st Qd ∧ Kg (RV K) K F H st Qd Q
def qCall (sp : SpD) (ta : TDa) : TD := fun ε st Q => ta ε st fun xs s1 => sp xs s1 Q
theorem de_call {x : Str} {e : Expr} {es : List Expr} {ta : TDa} {p pos : Pos} {f : Addr} {fd : FuncData} {ps : List Str} {sp : SpD} {j : Nat} (c : Cok P w K mg base X N sc fs k) (hg : glB sc x = true) (hm : mg x = some (.ref f)) (hk : PySem.W.keepIn K (.ref f) = true) (G : FnOk P w K mg base CX0 j f fd ps (hsp K sp)) (hj : j ≤ k) (b : Binds K fd ps [])
    (ha : DA X (e :: es) ta) (he : starEach (e :: es) X.env = (false, eval e X.env) :: starEach es X.env := by rfl) (hpl : (backTo pos (starEach es X.env)).any (·.1) = false := by rfl) : DE X (.Call (.Name x p) (e :: es) [] pos) (qCall sp ta) := by
  obtain ⟨t1, p1, a1⟩ := ha
  obtain ⟨hX1, hX2, hX3, hX4, hX5, _⟩ := id c
  have g := gl_of c hg
  have G' : FnOk X.prog X.w X.K X.mg X.base CX0 k f fd ps (hsp X.K sp) := by
    rw [hX1, hX2, hX3, hX4, hX5]
    exact G.mono hj
  refine ⟨⟨_, pe_call G' c.room g.1 (by rw [hX4]; exact hm) (by rw [hX3]; exact hk) (by rw [hX3]; exact b) .nil pass0 p1 g.2.2 he hpl, fun F σ H ε st Qd Q R E h kk => ?_⟩⟩
  refine a1 F σ H ε st _ _ R E h fun F1 vs H1 xs s1 t1 R1 r q => ?_
  show hsp X.K sp (vs ++ []) H1 Q E0
  rw [List.append_nil]
  exact ⟨F1, s1, xs, Qd, R1, r, q, kk.step t1⟩
/-- what is given out, all else of the store forgotten -/
def Fg (Q : DV → Sto → Prop) : DV → Sto → Prop := fun x st => ∃ st', Le st' st ∧ Q x st'
def startD (n : Nat) (xs : List DV) : Env := xs.map some ++ List.replicate (n - xs.length) none
theorem start_re {F : Hp} {vs : List V} {xs : List DV} (r : RVs K F vs xs) (N : List Str) : RE K F (L2.start N vs) (startD N.length xs) := by
  have hl := r.length
  refine ⟨by unfold L2.start startD; simp only [List.length_append, List.length_map, List.length_replicate]; omega, fun i x h => ?_⟩
  unfold startD at h
  unfold L2.start
  by_cases hi : i < xs.length
  · rw [List.getElem?_append_left (by rw [List.length_map]; exact hi), List.getElem?_map] at h
    rw [List.getElem?_append_left (by rw [List.length_map]; omega), List.getElem?_map]
    cases e : xs[i]? with
    | none => rw [e] at h; cases h
    | some y =>
      rw [e] at h
      cases h
      obtain ⟨v, hv, rv⟩ := r.get' e
      exact ⟨v, by rw [hv]; rfl, rv⟩
  · rw [List.getElem?_append_right (by rw [List.length_map]; omega), List.getElem?_replicate] at h
    split at h <;> cases h
/-- THE RULE of a def: its body's derivation, and its reading -/
theorem fn_ok {x qual : Str} {s : Stmt} {f : Addr} {fd : FuncData} {ps : List Str} {sp : SpD} {t : TDs} (Fu : Fun K x qual s f fd) (S : FnScope N ps (defScope s)) (len : ∀ xs st Q, sp xs st Q → xs.length = ps.length)
    (hbody : ∀ X, Cok P w K mg base X N (defScope s) (defScope s) k → DSs X (defBody s) t)
    (hsem : ∀ xs st Q, sp xs st Q → t { nx := fun _ st' => Fg Q (.d .none) st', rt := Fg Q } (startD N.length xs) st) : FnOk P w K mg base CX0 (k + 1) f fd ps (hsp K sp) := by
  refine Fu.ok S (fun vs H Q E ⟨F, st, xs, Qd, R, r, h, kk⟩ => r.length.trans (len xs st Qd h)) (fun cdv A outer s' H vs Q E hr ⟨F, st, xs, Qd, R, r, h, kk⟩ => ?_)
  have c : Cok P w K mg base (cxOf CX0 P w K mg base N qual (defScope s) f cdv A outer s' H E).nox N (defScope s) (defScope s) k :=
    ⟨rfl, rfl, rfl, rfl, rfl, rfl, S.nd, S.kind, rfl, rfl, fun _ _ => rfl, hr, fun _ _ h => h.elim⟩
  obtain ⟨ts, p, a⟩ := hbody _ c
  have fin : ∀ F' v H' x' st', Step F H st F' H' st' → Rs K F' H' st' → RV K F' v x' → Fg Qd x' st' → Q v H' := fun F' v H' x' st' t R' r' ⟨st2, le, q⟩ =>
    kk F' v H' x' st2 ⟨t.ex, fun b o e n => ⟨(t.pres b o e n).1, by
      cases e2 : st2 b with
      | none => rfl
      | some m => have := le b m e2; rw [(t.pres b o e n).2] at this; cases this⟩, t.fnew⟩ (R'.le le) r' q
  refine ⟨ts, p, a F _ H (startD N.length xs) st _ _ R (start_re r N) (hsem xs st Qd h) ⟨fun F' σ' H' ε' st' t R' E' q => fin F' .non H' (.d .none) st' t R' (.d .non) q, fin, fun _ _ _ _ _ _ _ _ z => z.elim, fun _ _ _ _ _ _ _ _ z => z.elim⟩⟩
end
end DL
end
section
set_option Elab.async false
set_option linter.all false
set_option maxRecDepth 100000
set_option maxHeartbeats 4000000
namespace DL
open PySem L2 PyProof.Rows
section
variable {P : Program} {w : World} {K : PySem.W.Frag} {mg : Str → Option Value} {base : Heap} {X : Cx} {N : List Str} {sc fs : Scope} {k : Nat}
theorem Cok.hu (c : Cok P w K mg base X N sc fs k) : X.A.units + 1 < cLine := hu_of c.room
theorem Cok.hu64 (c : Cok P w K mg base X N sc fs k) : X.A.units + 64 < cLine := c.room.units
theorem Cok.hu0 (c : Cok P w K mg base X N sc fs k) : X.A.units < cLine := c.room.units0
def qCB (r : RLD) (ta : TDa) : TD := fun ε st Q => ta ε st fun xs s1 => r xs s1 Q
theorem de_cb {x : Str} {e : Expr} {es : List Expr} {ta : TDa} {p pos : Pos} {id : String} {r : RLD} (c : Cok P w K mg base X N sc fs k) (hg : glB sc x = true) (hm : mg x = none) (hv : bootBuiltins x = some (.builtin id)) (hc : ∃ r', CallR X (.builtin id) r' ∧ SL X.K r' r)
    (ha : DA X (e :: es) ta) (he : starEach (e :: es) X.env = (false, eval e X.env) :: starEach es X.env := by rfl) (hpl : (backTo pos (starEach es X.env)).any (·.1) = false := by rfl) : DE X (.Call (.Name x p) (e :: es) [] pos) (qCB r ta) := by
  obtain ⟨t1, p1, a1⟩ := ha
  obtain ⟨r', h1, h2⟩ := hc
  have g := gl_of c hg
  refine ⟨⟨_, pe_callB h1 g.1 (by rw [c.hmg]; exact hm) hv p1 g.2.1 g.2.2 he hpl, fun F σ H ε st Qd Q R E h kk => a1.go R E h kk fun F1 H1 s1 v x R1 E1 rv q kk => h2 F1 H1 s1 v x _ _ R1 rv q kk⟩⟩
theorem de_ct {x : Str} {e : Expr} {es : List Expr} {ta : TDa} {p pos : Pos} {T : String} {r : RLD} (c : Cok P w K mg base X N sc fs k) (hg : glB sc x = true) (hm : mg x = none) (hv : bootBuiltins x = some (.type T)) (hc : ∃ r', CallR X (.type T) r' ∧ SL X.K r' r)
    (ha : DA X (e :: es) ta) (he : starEach (e :: es) X.env = (false, eval e X.env) :: starEach es X.env := by rfl) (hpl : (backTo pos (starEach es X.env)).any (·.1) = false := by rfl) : DE X (.Call (.Name x p) (e :: es) [] pos) (qCB r ta) := by
  obtain ⟨t1, p1, a1⟩ := ha
  obtain ⟨r', h1, h2⟩ := hc
  have g := gl_of c hg
  refine ⟨⟨_, pe_callTy h1 g.1 (by rw [c.hmg]; exact hm) hv p1 g.2.1 g.2.2 he hpl, fun F σ H ε st Qd Q R E h kk => a1.go R E h kk fun F1 H1 s1 v x R1 E1 rv q kk => h2 F1 H1 s1 v x _ _ R1 rv q kk⟩⟩
theorem CallR.or2 {f : Value} {r r' : List V → Hp → VK → Prop} (h : CallR X f r) (h' : CallR X f r') : CallR X f (fun x H Q => r x H Q ∨ r' x H Q) := by
  intro pins s σ H xs us Q I rx q
  rcases q with q | q
  · exact h pins s σ H xs us Q I rx q
  · exact h' pins s σ H xs us Q I rx q
theorem rvs1 {F : Hp} {vs : List V} {x : DV} (r : RVs K F vs [x]) : ∃ v, vs = [v] ∧ RV K F v x := by
  cases r with
  | cons a b => cases b; exact ⟨_, rfl, a⟩
theorem rvs2 {F : Hp} {vs : List V} {x y : DV} (r : RVs K F vs [x, y]) : ∃ v w, vs = [v, w] ∧ RV K F v x ∧ RV K F w y := by
  cases r with
  | cons a b => cases b with | cons b c => cases c; exact ⟨_, _, rfl, a, b⟩
/-- len -/
def qLen : RLD := fun xs st Q => match xs with
  | [.d (.str z)] => z.length ≤ sizeLine ∧ Q (.d (.int (z.length : Int))) st
  | [x] => (match sitems st x with
    | some l => Q (.d (.int (l.length : Int))) st
    | none => match x with
      | .r a => (match st a with
        | some (.dK kvs) => Q (.d (.int (kvs.length : Int))) st
        | _ => False)
      | _ => False)
  | _ => False
theorem c_len : ∃ r', CallR X (.builtin "len") r' ∧ SL X.K r' qLen := by
  refine ⟨_, CallR.or2 (CallR.or2 call_len_str call_len_seq) call_lenD, ?_⟩
  intro F H st vs xs Qd Q R rv h kk
  unfold qLen at h
  split at h
  · obtain ⟨v, rfl, r⟩ := rvs1 rv
    cases rv_str r
    exact .inl (.inl ⟨_, rfl, h.1, kk.at R (.d (.int _)) h.2⟩)
  · obtain ⟨v, rfl, r⟩ := rvs1 rv
    split at h
    · rename_i l el
      obtain ⟨p, ys, rfl, hq, s⟩ := sitems_rv R r el
      refine .inl (.inr ⟨p, ys, rfl, hq, ?_⟩)
      rw [s.length]
      exact kk.at R (.d (.int _)) h
    · split at h
      · rename_i a hx
        cases r
        split at h
        · rename_i kvs e
          obtain ⟨ws, q, s⟩ := R.ok _ _ e
          have hl : ws.length = kvs.length := Paired.length s
          refine .inr ⟨_, ws, rfl, q, ?_⟩
          rw [hl]
          exact kk.at R (.d (.int _)) h
        · exact h.elim
      · exact h.elim
  · exact h.elim
/-- tuple(x), list(x) -/
def qTupleC : RLD := fun xs st Q => match xs with
  | [x] => (match sitems st x with | some l => Q (mkT l) st | none => False)
  | _ => False
theorem c_tuple : ∃ r', CallR X (.type "tuple") r' ∧ SL X.K r' qTupleC := by
  refine ⟨_, call_tuple_of, ?_⟩
  intro F H st vs xs Qd Q R rv h kk
  unfold qTupleC at h
  split at h
  · obtain ⟨v, rfl, r⟩ := rvs1 rv
    split at h
    · rename_i x l el
      unfold sitems at el
      split at el
      · rename_i l' et
        cases el
        obtain ⟨p, ys, rfl, hq, s⟩ := titems_rv r et
        exact ⟨p, ys, rfl, .inr ⟨SqT.of (R.sub _ _ hq).1, kk.at R (mkT_rv hq s) h⟩⟩
      · obtain ⟨p, ys, rfl, hq, s⟩ := litems_rv R r el
        exact ⟨p, ys, rfl, .inl ⟨hq, fun l hl => new_tup R s hl h kk⟩⟩
    · exact h.elim
  · exact h.elim
def qListC (m : Bool) : RLD := fun xs st Q => match xs with
  | [x] => (match sitems st x with | some l => newL m l st Q | none => False)
  | _ => False
/-- max, min of two -/
def qMax2 : RLD := fun xs st Q => match xs with
  | [.d (.int i), .d (.int j)] => Q (.d (.int (if j > i then j else i))) st
  | _ => False
def qMin2 : RLD := fun xs st Q => match xs with
  | [.d (.int i), .d (.int j)] => Q (.d (.int (if j < i then j else i))) st
  | _ => False
theorem c_max2 (hc : X.calm = true) : ∃ r', CallR X (.builtin "max") r' ∧ SL X.K r' qMax2 := by
  refine ⟨_, call_max2 hc, ?_⟩
  intro F H st vs xs Qd Q R rv h kk
  unfold qMax2 at h
  split at h
  · obtain ⟨v, w', rfl, r, r2⟩ := rvs2 rv
    cases rv_int r; cases rv_int r2
    exact ⟨_, _, rfl, kk.at R (.d (.int _)) h⟩
  · exact h.elim
theorem c_min2 (hc : X.calm = true) : ∃ r', CallR X (.builtin "min") r' ∧ SL X.K r' qMin2 := by
  refine ⟨_, call_min2 hc, ?_⟩
  intro F H st vs xs Qd Q R rv h kk
  unfold qMin2 at h
  split at h
  · obtain ⟨v, w', rfl, r, r2⟩ := rvs2 rv
    cases rv_int r; cases rv_int r2
    exact ⟨_, _, rfl, kk.at R (.d (.int _)) h⟩
  · exact h.elim
/-- int(n) -/
def qIntC : RLD := fun xs st Q => match xs with
  | [.d (.int i)] => Q (.d (.int i)) st
  | [.d (.bool b)] => Q (.d (.int (if b then 1 else 0))) st
  | _ => False
theorem c_int : ∃ r', CallR X (.type "int") r' ∧ SL X.K r' qIntC := by
  refine ⟨_, call_int1, ?_⟩
  intro F H st vs xs Qd Q R rv h kk
  unfold qIntC at h
  split at h
  · obtain ⟨v, rfl, r⟩ := rvs1 rv
    cases rv_int r
    exact .inl ⟨_, rfl, kk.at R (.d (.int _)) h⟩
  · obtain ⟨v, rfl, r⟩ := rvs1 rv
    cases rv_bool r
    exact .inr ⟨_, rfl, kk.at R (.d (.int _)) h⟩
  · exact h.elim
def qSum : RLD := fun xs st Q => match xs with
  | [x] => (match sitems st x with | some l => (match dints l with | some ns => Q (.d (.int ns.sum)) st | none => False) | none => False)
  | _ => False
/-- any, all of truth values -/
def dbools : List DV → Option (List Bool)
  | [] => some []
  | .d (.bool i) :: r => (dbools r).map (i :: ·)
  | _ :: _ => none
theorem dbools_rvs : ∀ {F : Hp} {vs : List V} {xs : List DV} {ns : List Bool}, RVs K F vs xs → dbools xs = some ns → vs = ns.map V.bl
  | _, _, [], ns, r, h => by cases h; cases r; rfl
  | F, v :: vs, .d (.bool i) :: xs, ns, .cons r q, h => by
    cases e : dbools xs with
    | none => simp [dbools, e] at h
    | some l =>
      simp [dbools, e] at h
      subst h
      cases rv_bool r
      rw [dbools_rvs q e]
      rfl
theorem dbools_map : ∀ l : List Bool, dbools (l.map fun i => .d (.bool i)) = some l
  | [] => rfl
  | i :: r => by simp [dbools, dbools_map r]
def qAny : RLD := fun xs st Q => match xs with
  | [x] => (match litems st x with | some l => (match dbools l with | some ns => Q (.d (.bool (ns.any id))) st | none => False) | none => False)
  | _ => False
def qAll : RLD := fun xs st Q => match xs with
  | [x] => (match litems st x with | some l => (match dbools l with | some ns => Q (.d (.bool (ns.all id))) st | none => False) | none => False)
  | _ => False
theorem c_any (hc : X.calm = true) : ∃ r', CallR X (.builtin "any") r' ∧ SL X.K r' qAny := by
  refine ⟨_, cr_any hc, ?_⟩
  intro F H st vs xs Qd Q R rv h kk
  unfold qAny at h
  split at h
  · obtain ⟨v, rfl, r⟩ := rvs1 rv
    split at h
    · rename_i x l el
      split at h
      rotate_left
      · exact h.elim
      rename_i ns en
      have q := h
      obtain ⟨p, ys, rfl, hq, s⟩ := litems_rv R r el
      cases dbools_rvs s en
      exact ⟨p, ns, rfl, hq, kk.at R (.d (.bl _)) q⟩
    · exact h.elim
  · exact h.elim
theorem c_all (hc : X.calm = true) : ∃ r', CallR X (.builtin "all") r' ∧ SL X.K r' qAll := by
  refine ⟨_, cr_all hc, ?_⟩
  intro F H st vs xs Qd Q R rv h kk
  unfold qAll at h
  split at h
  · obtain ⟨v, rfl, r⟩ := rvs1 rv
    split at h
    · rename_i x l el
      split at h
      rotate_left
      · exact h.elim
      rename_i ns en
      have q := h
      obtain ⟨p, ys, rfl, hq, s⟩ := litems_rv R r el
      cases dbools_rvs s en
      exact ⟨p, ns, rfl, hq, kk.at R (.d (.bl _)) q⟩
    · exact h.elim
  · exact h.elim
def tyName (st : Sto) : DV → Option String
  | .d .none => some "NoneType"
  | .d (.bool _) => some "bool"
  | .d (.int _) => some "int"
  | .d (.str _) => some "str"
  | .d (.list _) => some "list"
  | .d (.tuple _) => some "tuple"
  | .d (.dict _) => none
  | .t _ => some "tuple"
  | .r a => match st a with | some (.lst _) => some "list" | some (.dK _) => some "dict" | some (.dT _) => some "dict" | _ => none
def qIsi (T : String) (ta : TD) : TD := fun ε st Q => ta ε st fun x s1 => match tyName s1 x with
  | some T' => (match kitB T' T with | some b => Q (.d (.bool b)) s1 | none => False)
  | none => False
def keyD : DV → Option Key
  | .d (.int i) => some (.inl i)
  | .d (.str x) => some (.inr x)
  | _ => none
def keyT : List DV → Option (List Key)
  | [] => some []
  | x :: r => match keyD x, keyT r with | some k, some l => some (k :: l) | _, _ => none
def lookD {κ : Type} [DecidableEq κ] (kvs : List (κ × DV)) (k : κ) : Option DV := (kvs.find? fun kv => decide (kv.1 = k)).map (·.2)
def putD {κ : Type} [DecidableEq κ] (kvs : List (κ × DV)) (k : κ) (v : DV) : List (κ × DV) :=
  if (kvs.any fun kv => decide (kv.1 = k)) = true then kvs.map fun kv => if kv.1 = k then (kv.1, v) else kv else kvs ++ [(k, v)]
abbrev PR (K : PySem.W.Frag) (F : Hp) {κ : Type} : List (κ × V) → List (κ × DV) → Prop := Paired fun p q => p.1 = q.1 ∧ RV K F p.2 q.2
theorem key_rv {F : Hp} {v : V} {x : DV} {q : Key} (r : RV K F v x) (h : keyD x = some q) : v = kV q := by
  cases x with
  | d z =>
    cases z with
    | int i => cases h; exact rv_int r
    | str s => cases h; exact rv_str r
    | _ => cases h
  | r a => cases h
  | t a => cases h
theorem keyT_rv : ∀ {F : Hp} {vs : List V} {xs : List DV} {q : List Key}, RVs K F vs xs → keyT xs = some q → vs = q.map kV
  | _, _, [], q, r, h => by cases h; cases r; rfl
  | F, v :: vs, x :: xs, q, .cons r s, h => by
    unfold keyT at h
    cases e1 : keyD x with
    | none => rw [e1] at h; cases h
    | some a =>
      cases e2 : keyT xs with
      | none => rw [e1, e2] at h; cases h
      | some l =>
        rw [e1, e2] at h
        cases h
        rw [key_rv r e1, keyT_rv s e2]
        rfl
theorem look_rv {κ : Type} [DecidableEq κ] {F : Hp} {ws : List (κ × V)} {kvs : List (κ × DV)} (r : PR K F ws kvs) (q : κ) : (∃ v x, valV ws q = some v ∧ lookD kvs q = some x ∧ RV K F v x) ∨ (valV ws q = none ∧ lookD kvs q = none) := by
  induction r with
  | nil => exact .inr ⟨rfl, rfl⟩
  | @cons a b l1 l2 h t ih =>
    obtain ⟨e, r⟩ := h
    by_cases hq : a.1 = q
    · refine .inl ⟨a.2, b.2, valV_pos hq, ?_, r⟩
      unfold lookD
      rw [List.find?_cons, decide_eq_true (e ▸ hq)]
      rfl
    · have h1 : valV (a :: l1) q = valV l1 q := valV_neg hq
      have h2 : lookD (b :: l2) q = lookD l2 q := by
        unfold lookD
        rw [List.find?_cons, decide_eq_false (e ▸ hq)]
      rw [h1, h2]
      exact ih
theorem put_rv {κ : Type} [DecidableEq κ] {F : Hp} {ws : List (κ × V)} {kvs : List (κ × DV)} (r : PR K F ws kvs) (q : κ) {v : V} {x : DV} (rx : RV K F v x) : PR K F (putK ws q v) (putD kvs q x) := by
  have ha : (ws.any fun kv => decide (kv.1 = q)) = kvs.any fun kv => decide (kv.1 = q) := by
    clear rx
    induction r with
    | nil => rfl
    | @cons a b l1 l2 h t ih => rw [List.any_cons, List.any_cons, ih, h.1]
  unfold putK putD
  rw [ha]
  by_cases h : (kvs.any fun kv => decide (kv.1 = q)) = true
  · rw [if_pos h, if_pos h]
    clear ha h
    induction r with
    | nil => exact .nil
    | @cons a b l1 l2 h t ih =>
      rw [List.map_cons, List.map_cons]
      refine .cons ?_ ih
      by_cases e : a.1 = q
      · rw [if_pos e, if_pos (h.1 ▸ e)]
        exact ⟨h.1, rx⟩
      · rw [if_neg e, if_neg (h.1 ▸ e)]
        exact h
  · rw [if_neg h, if_neg h]
    exact Paired.snoc r ⟨rfl, rx⟩
/-- what a dict of the store holds at a key -/
def dlook (m : Option MO) (y : DV) : Option (Option DV) := match m with
  | some (.dK kvs) => (keyD y).map fun q => lookD kvs q
  | some (.dT kvs) => match titems y with | some ys => (keyT ys).map fun q => lookD kvs q | none => none
  | some (.lk _ _ kvs) => match titems y with | some ys => (keyT ys).map fun q => lookD kvs q | none => none
  | _ => none
theorem dlook_at {F H : Hp} {st : Sto} {a : Addr} {u : V} {y : DV} {o : Option DV} (R : Rs K F H st) (r : RV K F u y) (h : dlook (st a) y = some o) : (∃ v x, o = some x ∧ DGet H a u (some v) ∧ RV K F v x) ∨ (o = none ∧ DGet H a u none) := by
  unfold dlook at h
  split at h
  · rename_i kvs e
    obtain ⟨ws, hw, s⟩ := R.ok a _ e
    cases ek : keyD y with
    | none => rw [ek] at h; cases h
    | some q =>
      rw [ek] at h
      cases h
      rw [key_rv r ek]
      rcases look_rv s q with ⟨v, x, e1, e2, rx⟩ | ⟨e1, e2⟩
      · refine .inl ⟨v, x, e2, ?_, rx⟩
        rw [← e1]
        exact DGet.k hw
      · refine .inr ⟨e2, ?_⟩
        rw [← e1]
        exact DGet.k hw
  · rename_i kvs e
    obtain ⟨ws, hw, s⟩ := R.ok a _ e
    split at h
    · rename_i ys ey
      obtain ⟨b, vs, rfl, hb, sb⟩ := titems_rv r ey
      cases ek : keyT ys with
      | none => rw [ek] at h; cases h
      | some q =>
        rw [ek] at h
        cases h
        have hv := keyT_rv sb ek
        subst hv
        have hb' := (R.sub _ _ hb).1
        rcases look_rv s q with ⟨v, x, e1, e2, rx⟩ | ⟨e1, e2⟩
        · refine .inl ⟨v, x, e2, ?_, rx⟩
          rw [← e1]
          exact DGet.t hw hb'
        · refine .inr ⟨e2, ?_⟩
          rw [← e1]
          exact DGet.t hw hb'
    · cases h
  · rename_i ob ws kvs e
    obtain ⟨hw, s⟩ := R.ok a _ e
    split at h
    · rename_i ys ey
      obtain ⟨b, vs, rfl, hb, sb⟩ := titems_rv r ey
      cases ek : keyT ys with
      | none => rw [ek] at h; cases h
      | some q =>
        rw [ek] at h
        cases h
        have hv := keyT_rv sb ek
        subst hv
        have hb' := (R.sub _ _ hb).1
        rcases look_rv s q with ⟨v, x, e1, e2, rx⟩ | ⟨e1, e2⟩
        · refine .inl ⟨v, x, e2, ?_, rx⟩
          rw [← e1]
          exact .inr ⟨ws, q, b, .inr ⟨ob, hw⟩, rfl, hb', rfl⟩
        · refine .inr ⟨e2, ?_⟩
          rw [← e1]
          exact .inr ⟨ws, q, b, .inr ⟨ob, hw⟩, rfl, hb', rfl⟩
    · cases h
  · cases h
def dput (m : Option MO) (y x : DV) : Option MO := match m with
  | some (.dK kvs) => match keyD y with | some q => if kvs.length < sizeLine then some (.dK (putD kvs q x)) else none | none => none
  | some (.dT kvs) => match titems y with | some ys => (match keyT ys with | some q => if kvs.length < sizeLine then some (.dT (putD kvs q x)) else none | none => none) | none => none
  | _ => none
theorem dput_at {F H : Hp} {st : Sto} {a : Addr} {u v : V} {y x : DV} {m : MO} (R : Rs K F H st) (r : RV K F u y) (rx : RV K F v x) (h : dput (st a) y x = some m) : ∃ H', DPut H a u v H' ∧ Step F H st F H' (up st a m) ∧ Rs K F H' (up st a m) := by
  unfold dput at h
  split at h
  · rename_i kvs e
    obtain ⟨ws, hw, s⟩ := R.ok a _ e
    split at h
    · rename_i q ek
      split at h
      · rename_i hl
        cases h
        rw [key_rv r ek]
        have hl2 : ws.length = kvs.length := Paired.length s
        obtain ⟨R', t⟩ := R.put (o := .dK (putK ws q v)) (m := .dK (putD kvs q x)) e ⟨_, upd_same, put_rv s q rx⟩
        exact ⟨_, DPut.k hw (by omega), t, R'⟩
      · cases h
    · cases h
  · rename_i kvs e
    obtain ⟨ws, hw, s⟩ := R.ok a _ e
    split at h
    · rename_i ys ey
      obtain ⟨b, vs, rfl, hb, sb⟩ := titems_rv r ey
      split at h
      · rename_i q ek
        split at h
        · rename_i hl
          cases h
          have hv := keyT_rv sb ek
          subst hv
          have hl2 : ws.length = kvs.length := Paired.length s
          obtain ⟨R', t⟩ := R.put (o := .dT (putK ws q v)) (m := .dT (putD kvs q x)) e ⟨_, upd_same, put_rv s q rx⟩
          exact ⟨_, DPut.t hw (R.sub _ _ hb).1 (by omega), t, R'⟩
        · cases h
      · cases h
    · cases h
  · cases h
def qDGet : R2D := fun x y st Q => match x with
  | .r a => (match dlook (st a) y with | some (some z) => Q z st | _ => False)
  | _ => False
theorem de_dget {o i : Expr} {pos : Pos} {ta tb : TD} (c : Cok P w K mg base X N sc fs k) (ho : DE X o ta) (hi : DE X i tb) (hs : NoSl i) : DE X (.Subscript o i pos) (qOp qDGet ta tb) := by
  obtain ⟨te, pa, sa⟩ := ho
  obtain ⟨tf, pb, sb⟩ := hi
  refine ⟨⟨_, pe_dget c.hu pa pb hs, Sg.bin (r' := fun x y H Q => ∃ a v, x = .ref a ∧ DGet H a y (some v) ∧ Q v H) sa sb (fun _ _ _ _ e h => RV.mono e h) ?_⟩⟩
  intro F H st v w x y Qd Q R rv rw' h kk
  unfold qDGet at h
  split at h
  · cases rv
    split at h
    · rename_i z e
      rcases dlook_at R rw' e with ⟨v, x, e1, g, rx⟩ | ⟨e1, _⟩
      · cases e1
        exact ⟨_, v, rfl, g, kk.at R rx h⟩
      · cases e1
    · exact h.elim
  · exact h.elim
def qDIn (neg : Bool) : R2D := fun y x st Q => match x with
  | .r a => (match dlook (st a) y with | some o => Q (.d (.bool (if neg then !o.isSome else o.isSome))) st | none => False)
  | _ => False
/-- d[k] = v -/
def qDPut (td ty tv : TD) : TDs := fun D ε st => tv ε st fun v s1 => td ε s1 fun x s2 => ty ε s2 fun y s3 => match x with
  | .r a => (match dput (s3 a) y v with | some m => D.nx ε (up s3 a m) | none => False)
  | _ => False
theorem ds_dput {o i value : Expr} {pos pos' : Pos} {td ty tv : TD} (c : Cok P w K mg base X N sc fs k) (ho : DE X o td) (hi : DE X i ty) (hv : DE X value tv) (hs : swapsWith value (some (.Subscript o i pos')) pos.line X.env = pure false) : DS X (.Assign [.Subscript o i pos'] value pos) (qDPut td ty tv) := by
  obtain ⟨t1, p1, a1⟩ := ho
  obtain ⟨t2, p2, a2⟩ := hi
  obtain ⟨t3, p3, a3⟩ := hv
  refine ⟨⟨_, ps_dput c.hu p1 p2 p3 hs, fun F σ H ε st Dd D R E h kk => ?_⟩⟩
  refine a3 F σ H ε st _ _ R E h fun F1 v H1 x s1 st1 R1 r1 q => ?_
  refine a1 F1 σ H1 ε s1 _ _ R1 (E.mono st1.ex) q fun F2 u H2 y s2 st2 R2 r2 q => ?_
  refine a2 F2 σ H2 ε s2 _ _ R2 (E.mono (st1.trans st2).ex) q fun F3 z H3 y' s3 st3 R3 r3 q => ?_
  split at q
  · cases r2
    split at q
    rotate_left
    · exact q.elim
    rename_i m em
    obtain ⟨H4, g, t, R4⟩ := dput_at R3 r3 (r1.mono (st2.trans st3).ex) em
    exact ⟨_, H4, rfl, g, kk.nx F3 σ H4 ε _ (((st1.trans st2).trans st3).trans t) R4 (E.mono ((st1.trans st2).trans st3).ex) q⟩
  · exact q.elim
def qDNew (T : Bool) : TD := fun _ st Q => ∀ p, st p = none → Q (.r p) (up st p (if T then .dT [] else .dK []))
end
end DL
end
section
set_option Elab.async false
set_option linter.all false
set_option maxRecDepth 100000
set_option maxHeartbeats 4000000
namespace DLM
open PySem PySem.Spec
open AutoSeq1 (wpAny_loadPart' idx_int sub_tuple_tuple sub_list_list sub_tuple_list sub_list_tuple)
theorem list_extend_gen (l : Addr) (items : Array Value) (n : Nat) (b : Addr) (items2 : Array Value) (n2 : Nat) (sl : Array (Option Value)) (hc0 : ¬(!items.isEmpty && Builtin.List.listTooLong (items.size + items2.size)) = true) (hc1 : items.size ≤ sizeLine) (hs2 : items.size + items2.size ≤ sizeLine + 1) :
    Meets (Builtin.«list.extend» ⟨[.ref l, .ref b], []⟩) (fun _ R s => s.heap.get? l = some { cls := .type "list", dict := none, data := .seq items n, slots := #[] } ∧ s.heap.get? b = some { cls := .type "list", dict := none, data := .seq items2 n2, slots := sl } ∧ R (.ok (.ret Value.none)) { s with heap := s.heap.update l (Obj.mapSeq fun x => x ++ items2), toks := s.toks }) :=
  .of_wp fun prog w A R s h => by
    obtain ⟨hp, g, d, tk, os⟩ := s; obtain ⟨hl, hb, h⟩ := h; have f1 := idx_int; have f2 := sub_tuple_tuple; have f3 := sub_list_list; have f4 := sub_tuple_list; have f5 := sub_list_tuple;
    have hz' : (items ++ items2).size ≤ sizeLine + 1 := by rw [Array.size_append]; exact hs2
    wp_walk using (wpAny_updateSeq hl rfl (hz := hc1) (_hz' := hz')), wpAny_loadPart' hl, wpAny_loadPart' hb; exact ⟨_, rfl, h⟩
theorem list_extend_genT (l : Addr) (items : Array Value) (n : Nat) (b : Addr) (items2 : Array Value) (n2 : Nat) (dd : Option Addr) (sl : Array (Option Value)) (hc0 : ¬(!items.isEmpty && Builtin.List.listTooLong (items.size + items2.size)) = true) (hc1 : items.size ≤ sizeLine) (hs2 : items.size + items2.size ≤ sizeLine + 1) :
    Meets (Builtin.«list.extend» ⟨[.ref l, .ref b], []⟩) (fun _ R s => s.heap.get? l = some { cls := .type "list", dict := none, data := .seq items n, slots := #[] } ∧ s.heap.get? b = some { cls := .type "tuple", dict := dd, data := .seq items2 n2, slots := sl } ∧ R (.ok (.ret Value.none)) { s with heap := s.heap.update l (Obj.mapSeq fun x => x ++ items2), toks := s.toks }) :=
  .of_wp fun prog w A R s h => by
    obtain ⟨hp, g, d, tk, os⟩ := s; obtain ⟨hl, hb, h⟩ := h; have f1 := idx_int; have f2 := sub_tuple_tuple; have f3 := sub_list_list; have f4 := sub_tuple_list; have f5 := sub_list_tuple;
    have hz' : (items ++ items2).size ≤ sizeLine + 1 := by rw [Array.size_append]; exact hs2
    wp_walk using (wpAny_updateSeq hl rfl (hz := hc1) (_hz' := hz')), wpAny_loadPart' hl, wpAny_loadPart' hb; exact ⟨_, rfl, h⟩
end DLM
namespace DL
open PySem L2 PyProof.Rows
section
variable {P : Program} {w : World} {K : PySem.W.Frag} {mg : Str → Option Value} {base : Heap} {X : Cx} {N : List Str} {sc fs : Scope} {k : Nat}
def qPairs : List (Str × TD) → Env → Sto → (List (Key × DV) → Sto → Prop) → Prop
  | [], _, st, Q => Q [] st
  | (x, t) :: r, ε, st, Q => t ε st fun v s1 => qPairs r ε s1 fun ps s2 => Q ((.inr x, v) :: ps) s2
structure DPs (X : Cx) (pos : Pos) (keys : List (Option Expr)) (values : List Expr) (l : List (Str × TD)) : Prop where
  ex : ∃ trs, PPs X pos keys values trs ∧ ∀ F σ H ε st Qd (Q : List (V × V) → Hp → Prop), Rs X.K F H st → RE X.K F σ ε → qPairs l ε st Qd →
    (∀ F' H' (ps : List (Key × V)) qs st', Step F H st F' H' st' → Rs X.K F' H' st' → PR X.K F' ps qs → Qd qs st' → Q (ps.map fun kv => (kV kv.1, kv.2)) H') → tPairs trs σ H Q
theorem dps_nil {pos : Pos} : DPs X pos [] [] [] := ⟨⟨[], pps_nil, fun F σ H ε st Qd Q R E h kk => kk F H [] [] st (Step.refl _ _ _) R .nil h⟩⟩
theorem dps_cons {pos p2 : Pos} {x : Str} {j : Nat} {v : Expr} {ks : List (Option Expr)} {vs : List Expr} {t : TD} {l : List (Str × TD)} (hv : DE X v t) (hr : DPs X pos ks vs l) : DPs X pos (some (.Constant (.str x) j p2) :: ks) (v :: vs) ((x, t) :: l) := by
  obtain ⟨t1, p1, a1⟩ := hv
  obtain ⟨trs, p3, a3⟩ := hr
  refine ⟨⟨_, pps_cons pe_str p1 p3, fun F σ H ε st Qd Q R E h kk => ?_⟩⟩
  refine a1 F σ H ε st _ _ R E h fun F1 v H1 y s1 st1 R1 r q => ?_
  exact a3 F1 σ H1 ε s1 _ _ R1 (E.mono st1.ex) q fun F2 H2 ps qs s2 st2 R2 rr q2 => kk F2 H2 ((.inr x, v) :: ps) ((.inr x, y) :: qs) s2 (st1.trans st2) R2 (.cons ⟨rfl, r.mono st2.ex⟩ rr) q2
def mergeD (kvs more : List (Key × DV)) : List (Key × DV) := more.foldl (fun acc kv => putD acc kv.1 kv.2) kvs
theorem merge_rv {F : Hp} : ∀ {more : List (Key × V)} {moreD : List (Key × DV)} {kvs : List (Key × V)} {kvsD : List (Key × DV)}, PR K F more moreD → PR K F kvs kvsD → PR K F (mergeK kvs more) (mergeD kvsD moreD)
  | _, _, _, _, .nil, h => h
  | a :: _, b :: _, _, _, .cons r t, h => by
    have e := r.1
    have := merge_rv t (put_rv h a.1 r.2)
    unfold mergeK mergeD at this ⊢
    rw [List.foldl_cons, List.foldl_cons, ← e]
    exact this
def qDisp (l : List (Str × TD)) : TD := fun ε st Q => qPairs l ε st fun qs s1 => qs.length ≤ 15 ∧ ∀ p, s1 p = none → Q (.r p) (up s1 p (.dK (mergeD [] qs)))
theorem de_disp {pos : Pos} {keys : List (Option Expr)} {values : List Expr} {l : List (Str × TD)} (h : DPs X pos keys values l) (hall : keys.all (·.isSome) = true) (hl : keys.length = values.length) (h0 : keys ≠ []) (h15 : keys.length ≤ 15) : DE X (.Dict keys values pos) (qDisp l) := by
  obtain ⟨trs, p, a⟩ := h
  refine ⟨⟨_, pe_disp p hall hl h0 h15, fun F σ H ε st Qd Q R E h kk p hp => ?_⟩⟩
  obtain ⟨f0, s0⟩ := R.free hp
  obtain ⟨R', t'⟩ := R.hide (o := .dK []) hp
  refine a F σ _ ε st _ _ R' E h fun F1 H1 ps qs s1 t1 R1 rr ⟨h15', q⟩ => ?_
  obtain ⟨hp1, f1, d1⟩ := t1.hid upd_same f0 s0
  have hlen : ps.length = qs.length := Paired.length rr
  refine ⟨hp1, ps, rfl, by omega, ?_⟩
  have R2 := R1.hput (o := .dK (mergeK [] ps)) f1 d1
  have t2 : Step F H st F1 (upd H1 p (.dK (mergeK [] ps))) s1 := (t'.trans t1).hput hp
  refine kk F1 (.ref p) _ (.r p) (up s1 p (.dK (mergeD [] qs))) ⟨t2.ex, fun a u ha k => ?_, t2.fnew⟩ ⟨fun a u ha => ?_, fun a m ha => ?_⟩ (.r p) (q p d1)
  · rw [up_ne (fun z => by rw [z, hp] at ha; cases ha)]; exact t2.pres a u ha k
  · rw [up_ne (fun z => by rw [z, f1] at ha; cases ha)]; exact R2.sub a u ha
  · by_cases z : a = p
    · subst z; rw [up_same] at ha; cases ha; exact ⟨_, upd_same, merge_rv rr .nil⟩
    · rw [up_ne z] at ha; exact R2.ok a m ha
theorem mt_extendA : MtM X "list.extend" (fun x vs H Q => ∃ l b xs zs, x = .ref l ∧ vs = [.ref b] ∧ H l = some (.lst xs) ∧ (SqL X.K H b zs ∨ SqT X.K H b zs) ∧ xs.length + zs.length ≤ sizeLine ∧ Q .non (upd H l (.lst (xs ++ zs)))) := by
  intro pins s σ H x vs v us Q I rx rv h
  obtain ⟨l, b, xs, zs, rfl, rfl, hH, hB, hz, q⟩ := h
  cases rx
  obtain ⟨u, rfl, ru⟩ := rv.one
  cases ru
  obtain ⟨z, its, n, r, hl, e⟩ := I.lstM hH
  rcases hB with hB | hB
  · obtain ⟨its2, r2, ⟨⟨cls2, dd2, data2, sl2⟩, n2, ho2, hc2, hd02, hd2⟩, hs2⟩ := I.list hB
    simp only at hc2 hd02 hd2
    subst hc2 hd02 hd2
    have hl2 := r2.length
    have hsz : its.toArray.size + its2.toArray.size ≤ sizeLine := by rw [List.size_toArray, List.size_toArray]; omega
    have hlong : ¬ (!its.toArray.isEmpty && Builtin.List.listTooLong (its.toArray.size + its2.toArray.size)) = true := by
      rw [notLongL hsz, Bool.and_false]
      exact Bool.false_ne_true
    refine call_meets F.slot_list_extend ⟨_, e, rfl⟩ F.entry_list_extend (F.args_list_extend_2 _ _)
      (DLM.list_extend_gen l its.toArray n b its2.toArray n2 sl2 hlong (by rw [List.size_toArray]; omega) (by omega)) ⟨e, ho2, ?_⟩
    refine ⟨.non, _, I.lset (its' := its ++ its2) hH e (by simp) (r.append r2) ?_, rfl, q⟩
    rw [List.length_append]
    omega
  · obtain ⟨its2, r2, ⟨⟨cls2, dd2, data2, sl2⟩, ho2, hc2, n2, hd2⟩, hs2⟩ := I.tuple hB
    simp only at hc2 hd2
    subst hc2 hd2
    have hl2 := r2.length
    have hsz : its.toArray.size + its2.toArray.size ≤ sizeLine := by rw [List.size_toArray, List.size_toArray]; omega
    have hlong : ¬ (!its.toArray.isEmpty && Builtin.List.listTooLong (its.toArray.size + its2.toArray.size)) = true := by
      rw [notLongL hsz, Bool.and_false]
      exact Bool.false_ne_true
    refine call_meets F.slot_list_extend ⟨_, e, rfl⟩ F.entry_list_extend (F.args_list_extend_2 _ _)
      (DLM.list_extend_genT l its.toArray n b its2.toArray n2 dd2 sl2 hlong (by rw [List.size_toArray]; omega) (by omega)) ⟨e, ho2, ?_⟩
    refine ⟨.non, _, I.lset (its' := its ++ its2) hH e (by simp) (r.append r2) ?_, rfl, q⟩
    rw [List.length_append]
    omega
/-- xs.append(e), xs.extend(e) as a statement's expression -/
def qAppend (to te : TD) : TD := fun ε st Q => to ε st fun x s1 => match x with
  | .r a => (∃ xs, s1 a = some (.lst xs)) ∧ te ε s1 fun y s2 => ∃ xs, s2 a = some (.lst xs) ∧ xs.length < sizeLine ∧ Q (.d .none) (up s2 a (.lst (xs ++ [y])))
  | _ => False
theorem de_append {o e : Expr} {to te : TD} {apos cpos : Pos} (ho : DE X o to) (he : DE X e te) (hbase : attributeBase o "append" X.env (eval o X.env) = eval o X.env := by rfl)
    (hfew : ((backTo cpos (starEach [e] X.env)).all (fun x => !x.1) && (backToKw cpos (keywordEach [] X.env)).all (fun x => x.1.isSome)
      && decide ([e].length + ([] : List Keyword).length + (if ([] : List Keyword).isEmpty then 0 else 1) < 30)) = true := by rfl)
    (hline : (apos.endLine == cpos.line) = true := by rfl) (hs : starEach [e] X.env = (false, eval e X.env) :: starEach [] X.env := by rfl) : DE X (.Call (.Attribute o "append" apos) [e] [] cpos) (qAppend to te) := by
  obtain ⟨t1, p1, a1⟩ := ho
  obtain ⟨t2, p2, a2⟩ := he
  refine ⟨⟨_, pe_bm PySem.F.plainAttrs_list PySem.F.slot_list_append PySem.F.type_list_append mt_append p1 (pa_cons p2 pa_nil hs) hbase hfew hline hs rfl, fun F σ H ε st Qd Q R E h kk => ?_⟩⟩
  refine a1 F σ H ε st _ _ R E h fun F1 v H1 x s1 st1 R1 r q => ?_
  split at q
  · cases r
    obtain ⟨⟨xs0, e0⟩, q⟩ := q
    obtain ⟨vs0, hv0, _⟩ := R1.ok _ _ e0
    refine ⟨Or.inl ⟨rfl, _, SqL.of hv0⟩, a2 F1 σ H1 ε s1 _ _ R1 (E.mono st1.ex) q fun F2 u H2 y s2 st2 R2 r2 ⟨xs, ex, hl, q⟩ => ?_⟩
    obtain ⟨vs, hv, s⟩ := R2.ok _ _ ex
    have hlen := s.length
    obtain ⟨R3, t3⟩ := R2.put (o := .lst (vs ++ [u])) (m := .lst (xs ++ [y])) ex ⟨_, upd_same, s.append (.cons r2 .nil)⟩
    exact ⟨_, vs, u, rfl, rfl, hv, by omega, kk F2 _ _ (.d .none) _ ((st1.trans st2).trans t3) R3 (.d .non) q⟩
  · exact q.elim
def qExtend (to te : TD) : TD := fun ε st Q => to ε st fun x s1 => match x with
  | .r a => (∃ xs, s1 a = some (.lst xs)) ∧ te ε s1 fun y s2 => ∃ xs ys, s2 a = some (.lst xs) ∧ sitems s2 y = some ys ∧ xs.length + ys.length ≤ sizeLine ∧ Q (.d .none) (up s2 a (.lst (xs ++ ys)))
  | _ => False
theorem de_extend {o e : Expr} {to te : TD} {apos cpos : Pos} (ho : DE X o to) (he : DE X e te) (hbase : attributeBase o "extend" X.env (eval o X.env) = eval o X.env := by rfl)
    (hfew : ((backTo cpos (starEach [e] X.env)).all (fun x => !x.1) && (backToKw cpos (keywordEach [] X.env)).all (fun x => x.1.isSome)
      && decide ([e].length + ([] : List Keyword).length + (if ([] : List Keyword).isEmpty then 0 else 1) < 30)) = true := by rfl)
    (hline : (apos.endLine == cpos.line) = true := by rfl) (hs : starEach [e] X.env = (false, eval e X.env) :: starEach [] X.env := by rfl) : DE X (.Call (.Attribute o "extend" apos) [e] [] cpos) (qExtend to te) := by
  obtain ⟨t1, p1, a1⟩ := ho
  obtain ⟨t2, p2, a2⟩ := he
  refine ⟨⟨_, pe_bm PySem.F.plainAttrs_list PySem.F.slot_list_extend PySem.F.type_list_extend mt_extendA p1 (pa_cons p2 pa_nil hs) hbase hfew hline hs rfl, fun F σ H ε st Qd Q R E h kk => ?_⟩⟩
  refine a1 F σ H ε st _ _ R E h fun F1 v H1 x s1 st1 R1 r q => ?_
  split at q
  · cases r
    obtain ⟨⟨xs0, e0⟩, q⟩ := q
    obtain ⟨vs0, hv0, _⟩ := R1.ok _ _ e0
    refine ⟨Or.inl ⟨rfl, _, SqL.of hv0⟩, a2 F1 σ H1 ε s1 _ _ R1 (E.mono st1.ex) q fun F2 u H2 y s2 st2 R2 r2 ⟨xs, ys, ex, ey, hl, q⟩ => ?_⟩
    obtain ⟨vs, hv, s⟩ := R2.ok _ _ ex
    obtain ⟨b, ws, rfl, hq, s2'⟩ := sitems_rv R2 r2 ey
    have hlen := s.length
    have hlen2 := s2'.length
    obtain ⟨R3, t3⟩ := R2.put (o := .lst (vs ++ ws)) (m := .lst (xs ++ ys)) ex ⟨_, upd_same, s.append s2'⟩
    exact ⟨_, b, vs, ws, rfl, rfl, hv, hq, by omega, kk F2 _ _ (.d .none) _ ((st1.trans st2).trans t3) R3 (.d .non) q⟩
  · exact q.elim
end
end DL
end
section
set_option Elab.async false
set_option linter.all false
set_option maxRecDepth 100000
set_option maxHeartbeats 4000000
namespace DL
open PySem L2 PyProof.Rows
theorem bb_len : bootBuiltins "len" = some (.builtin "len") := by decide +kernel
theorem bb_max : bootBuiltins "max" = some (.builtin "max") := by decide +kernel
theorem bb_min : bootBuiltins "min" = some (.builtin "min") := by decide +kernel
theorem bb_any : bootBuiltins "any" = some (.builtin "any") := by decide +kernel
theorem bb_all : bootBuiltins "all" = some (.builtin "all") := by decide +kernel
theorem bb_sorted : bootBuiltins "sorted" = some (.builtin "sorted") := by decide +kernel
theorem bt_tuple : bootBuiltins "tuple" = some (.type "tuple") := by decide +kernel
theorem bt_int : bootBuiltins "int" = some (.type "int") := by decide +kernel
theorem bt_set : bootBuiltins "set" = some (.type "set") := by decide +kernel
section
variable {P : Program} {w : World} {K : PySem.W.Frag} {mg : Str → Option Value} {base : Heap} {X : Cx} {N : List Str} {sc fs : Scope} {k : Nat}
/-- a def of the text that keeps a promise -/
def Cl (P : Program) (w : World) (K : PySem.W.Frag) (mg : Str → Option Value) (base : Heap) (x : Str) (j : Nat) (sp : SpD) : Prop :=
  ∃ (f : Addr) (fd : FuncData) (ps : List Str), mg x = some (.ref f) ∧ PySem.W.keepIn K (.ref f) = true ∧ FnOk P w K mg base CX0 j f fd ps (hsp K sp) ∧ Binds K fd ps []
theorem de_callC {x : Str} {e : Expr} {es : List Expr} {ta : TDa} {p pos : Pos} {sp : SpD} {j : Nat} (c : Cok P w K mg base X N sc fs k) (hg : glB sc x = true) (C : Cl P w K mg base x j sp) (hj : j ≤ k)
    (ha : DA X (e :: es) ta) (he : starEach (e :: es) X.env = (false, eval e X.env) :: starEach es X.env := by rfl) (hpl : (backTo pos (starEach es X.env)).any (·.1) = false := by rfl) : DE X (.Call (.Name x p) (e :: es) [] pos) (qCall sp ta) := by
  obtain ⟨f, fd, ps, hm, hk, G, b⟩ := C
  exact de_call c hg hm hk G hj b ha he hpl
theorem de_gint {x : Str} {i : Int} {pos : Pos} (c : Cok P w K mg base X N sc fs k) (hg : glB sc x = true) (hm : ∃ t, mg x = some (.int i t)) : DE X (.Name x pos) (qc (.d (.int i))) := by
  obtain ⟨t, hm⟩ := hm
  have g := gl_of c hg
  exact ⟨⟨_, pe_glob g.1 (by rw [c.hmg]; exact hm) (v := .int i) ⟨t, rfl⟩ g.2.2, fun F σ H ε st Qd Q R E q kk => kk.at R (.d (.int i)) q⟩⟩
theorem Cok.hu65 (c : Cok P w K mg base X N sc fs k) : X.A.units + 64 < cLine := c.hu64
theorem rp_all : ∀ {F : Hp} (ns : List Int), RpAll K F (ns.map V.int) (ns.map .int)
  | _, [] => .nil
  | _, n :: ns => .cons (.int n) (rp_all ns)
/-- the law's entry -/
theorem law_start {sp : SpD} {n : Nat} (h : ∀ ns : List Int, ns.length ≤ n → sp [.d (.list (ns.map .int))] (fun _ => none) (fun x _ => x = .d (.bool true))) {H : Hp} {a : Addr} {ns : List Int} {E : XK} (hl : ns.length ≤ n) (hb : Only H) (hS : SqL K H a (ns.map V.int)) : hsp K sp [.ref a] H (fun v _ => v = .bl true) E :=
  ⟨H, fun _ => none, _, _, ⟨fun _ _ e => ⟨e, rfl⟩, fun _ _ e => nomatch e⟩, .cons (.d (.lst hS (rp_all ns))) .nil, h ns hl, fun F v H' x st' _ _ r q => by subst q; exact rv_bool r⟩
/-- [f x for x in xs if p x], nothing of the store touched -/
theorem comp_fm {inv : Sto → Prop} {g : TDg} {tt : TDt} {te : TD} {ε : Env} {Kc : List DV → Sto → Prop} {st : Sto} (p : DV → Bool) (f : DV → DV) (hi : inv st) : ∀ (xs acc : List DV),
    (∀ x ∈ xs, ∀ (Q1 : DV → Sto → Prop) (Q2 : Sto → Prop), (if p x = true then Q1 (f x) st else Q2 st) → g x ε st fun ε1 s1 => tt ε1 s1 fun b s2 => if b = true then te ε1 s2 Q1 else Q2 s2) → Kc (acc ++ (xs.filter p).map f) st → qComp inv g tt te ε Kc xs acc st
  | [], acc, _, h => ⟨hi, by rw [List.filter_nil, List.map_nil, List.append_nil] at h; exact h⟩
  | x :: xs, acc, hx, h => by
    refine ⟨hi, ?_⟩
    refine hx x List.mem_cons_self (fun y s3 => qComp inv g tt te ε Kc xs (acc ++ [y]) s3) (fun s2 => qComp inv g tt te ε Kc xs acc s2) ?_
    cases e : p x with
    | true =>
      rw [if_pos rfl]
      refine comp_fm p f hi xs (acc ++ [f x]) (fun y hy => hx y (List.mem_cons_of_mem _ hy)) ?_
      rw [List.filter_cons, if_pos e, List.map_cons] at h
      rw [List.append_assoc]
      exact h
    | false =>
      rw [if_neg Bool.false_ne_true]
      refine comp_fm p f hi xs acc (fun y hy => hx y (List.mem_cons_of_mem _ hy)) ?_
      rw [List.filter_cons, if_neg (by rw [e]; exact Bool.false_ne_true)] at h
      exact h
theorem seq {t u : TDs} {D : EndsD} {ε : Env} {st : Sto} (h : ∀ N : Env → Sto → Prop, (∀ ε s, u D ε s → N ε s) → t { D with nx := N } ε st) : qSeq t u D ε st := h _ fun _ _ x => x
/-- a for, its items known -/
theorem for_by {inv : Sto → Prop} {g : TDg} {tb : TDs} {D : EndsD} {xs : List DV} {ε : Env} {st : Sto} (W : List DV → Env → Sto → Prop) (h0 : W xs ε st) (hi : ∀ ys ε st, W ys ε st → inv st)
    (hs : ∀ x ys ε st, x ∈ xs → W (x :: ys) ε st → ∀ L : Env → Sto → Prop, (∀ ε' st', W ys ε' st' → L ε' st') → g x ε st fun ε1 s1 => tb { D with nx := L, ct := L, bk := D.nx } ε1 s1) (hd : ∀ ε st, W [] ε st → D.nx ε st) : qLoop inv g tb D xs ε st := by
  have : ∀ ys ε st, (∀ y ∈ ys, y ∈ xs) → W ys ε st → qLoop inv g tb D ys ε st := by
    intro ys
    induction ys with
    | nil => exact fun ε st _ h => ⟨hi _ _ _ h, hd _ _ h⟩
    | cons y ys ih => exact fun ε st hy h => ⟨hi _ _ _ h, hs y ys ε st (hy y List.mem_cons_self) h _ fun ε' st' => ih ε' st' fun z hz => hy z (List.mem_cons_of_mem _ hz)⟩
  exact this xs ε st (fun _ z => z) h0
end
end DL
end
section
set_option Elab.async false
set_option linter.all false
set_option maxRecDepth 100000
set_option maxHeartbeats 4000000
namespace DL
open PySem L2 PyProof.Rows
def lexL : List Int → List Int → Bool
  | [], [] => false
  | [], _ :: _ => true
  | _ :: _, [] => false
  | x :: xs, y :: ys => decide (x < y) || (decide (x = y) && lexL xs ys)
theorem lexL_irr : ∀ x : List Int, lexL x x = false
  | [] => rfl
  | x :: xs => by simp [lexL, lexL_irr xs]
theorem lexL_tr : ∀ {x y z : List Int}, lexL x y = true → lexL y z = true → lexL x z = true
  | [], [], _, h, _ => by cases h
  | [], _ :: _, [], _, h => by cases h
  | [], _ :: _, _ :: _, _, _ => rfl
  | _ :: _, [], _, h, _ => by cases h
  | _ :: _, _ :: _, [], _, h => by cases h
  | x :: xs, y :: ys, z :: zs, h1, h2 => by
    simp only [lexL, Bool.or_eq_true, Bool.and_eq_true, decide_eq_true_eq] at h1 h2 ⊢
    rcases h1 with h1 | ⟨h1, h3⟩ <;> rcases h2 with h2 | ⟨h2, h4⟩
    · exact .inl (by omega)
    · exact .inl (by omega)
    · exact .inl (by omega)
    · exact .inr ⟨by omega, lexL_tr h3 h4⟩
theorem lexL_tri : ∀ (x y : List Int), lexL x y = true ∨ x = y ∨ lexL y x = true
  | [], [] => .inr (.inl rfl)
  | [], _ :: _ => .inl rfl
  | _ :: _, [] => .inr (.inr rfl)
  | x :: xs, y :: ys => by
    simp only [lexL, Bool.or_eq_true, Bool.and_eq_true, decide_eq_true_eq, List.cons.injEq]
    rcases Int.lt_trichotomy x y with h | h | h
    · exact .inl (.inl h)
    · rcases lexL_tri xs ys with k | k | k
      · exact .inl (.inr ⟨h, k⟩)
      · exact .inr (.inl ⟨h, k⟩)
      · exact .inr (.inr (.inr ⟨h.symm, k⟩))
    · exact .inr (.inr (.inl h))
/-- strictly rising -/
abbrev RisL (l : List (List Int)) : Prop := l.Pairwise fun x y => lexL x y = true
def insU (x : List Int) : List (List Int) → List (List Int)
  | [] => [x]
  | y :: l => if x = y then y :: l else if lexL x y = true then x :: y :: l else y :: insU x l
def sortU (l : List (List Int)) : List (List Int) := l.foldr insU []
theorem mem_insU {x z : List Int} : ∀ {l : List (List Int)}, z ∈ insU x l ↔ z = x ∨ z ∈ l
  | [] => by simp [insU]
  | y :: l => by
    unfold insU
    split
    · rename_i h
      subst h
      simp
    · split
      · simp
      · simp only [List.mem_cons, mem_insU (l := l)]
        constructor
        · rintro (h | h | h)
          · exact .inr (.inl h)
          · exact .inl h
          · exact .inr (.inr h)
        · rintro (h | h | h)
          · exact .inr (.inl h)
          · exact .inl h
          · exact .inr (.inr h)
theorem ris_insU {x : List Int} : ∀ {l : List (List Int)}, RisL l → RisL (insU x l)
  | [], _ => List.pairwise_singleton _ _
  | y :: l, h => by
    obtain ⟨h1, h2⟩ := List.pairwise_cons.mp h
    unfold insU
    split
    · exact h
    · rename_i hne
      split
      · rename_i hl
        refine List.pairwise_cons.mpr ⟨fun z hz => ?_, h⟩
        rcases List.mem_cons.mp hz with rfl | hz
        · exact hl
        · exact lexL_tr hl (h1 z hz)
      · rename_i hl
        refine List.pairwise_cons.mpr ⟨fun z hz => ?_, ris_insU h2⟩
        rcases mem_insU.mp hz with rfl | hz
        · rcases lexL_tri z y with k | k | k
          · exact absurd k hl
          · exact absurd k hne
          · exact k
        · exact h1 z hz
theorem mem_sortU {z : List Int} : ∀ {l : List (List Int)}, z ∈ sortU l ↔ z ∈ l
  | [] => Iff.rfl
  | x :: l => by
    show z ∈ insU x (sortU l) ↔ _
    rw [mem_insU, mem_sortU (l := l), List.mem_cons]
theorem ris_sortU : ∀ (l : List (List Int)), RisL (sortU l)
  | [] => List.Pairwise.nil
  | x :: l => ris_insU (ris_sortU l)
theorem ris_eq : ∀ {l m : List (List Int)}, RisL l → RisL m → (∀ x, x ∈ l ↔ x ∈ m) → l = m
  | [], [], _, _, _ => rfl
  | [], y :: m, _, _, h => absurd ((h y).mpr List.mem_cons_self) (by simp)
  | x :: l, [], _, _, h => absurd ((h x).mp List.mem_cons_self) (by simp)
  | x :: l, y :: m, hl, hm, h => by
    obtain ⟨l1, l2⟩ := List.pairwise_cons.mp hl
    obtain ⟨m1, m2⟩ := List.pairwise_cons.mp hm
    have e : x = y := by
      rcases List.mem_cons.mp ((h x).mp List.mem_cons_self) with e | hx
      · exact e
      · rcases List.mem_cons.mp ((h y).mpr List.mem_cons_self) with e | hy
        · exact e.symm
        · have := lexL_tr (l1 y hy) (m1 x hx)
          rw [lexL_irr] at this
          cases this
    subst e
    refine congrArg (x :: ·) (ris_eq l2 m2 fun z => ?_)
    constructor
    · intro hz
      rcases List.mem_cons.mp ((h z).mp (List.mem_cons_of_mem _ hz)) with e | hz'
      · subst e
        have := l1 z hz
        rw [lexL_irr] at this
        cases this
      · exact hz'
    · intro hz
      rcases List.mem_cons.mp ((h z).mpr (List.mem_cons_of_mem _ hz)) with e | hz'
      · subst e
        have := m1 z hz
        rw [lexL_irr] at this
        cases this
      · exact hz'
theorem sortU_eq {l m : List (List Int)} (hm : RisL m) (h : ∀ x, x ∈ l ↔ x ∈ m) : sortU l = m := ris_eq (ris_sortU l) hm fun x => mem_sortU.trans (h x)
theorem sortU_len : ∀ (l : List (List Int)), (sortU l).length ≤ l.length := by
  have : ∀ (x : List Int) (l : List (List Int)), (insU x l).length ≤ l.length + 1 := by
    intro x l
    induction l with
    | nil => simp [insU]
    | cons y l ih =>
      unfold insU
      split
      · simp
      · split
        · simp
        · simp; omega
  intro l
  induction l with
  | nil => exact Nat.le_refl _
  | cons x l ih =>
    have := this x (sortU l)
    show (insU x (sortU l)).length ≤ _
    rw [List.length_cons]
    omega
def tints : List DV → Option (List (List Int))
  | [] => some []
  | .d (.tuple xs) :: r => (match dints (xs.map .d) with | some a => (tints r).map (a :: ·) | none => none)
  | _ :: _ => none
theorem tints_map : ∀ l : List (List Int), tints ((l.map fun a => PyData.tuple (a.map .int)).map .d) = some l
  | [] => rfl
  | a :: l => by
    have e : dints ((a.map PyData.int).map DV.d) = some a := by rw [List.map_map]; exact dints_map a
    rw [List.map_cons, List.map_cons, tints, e, tints_map l]
    rfl
section
variable {P : Program} {w : World} {K : PySem.W.Frag} {mg : Str → Option Value} {base : Heap} {X : Cx} {N : List Str} {sc fs : Scope} {k : Nat}
theorem tints_rvs {F : Hp} : ∀ {vs : List V} {xs : List DV} {ts : List (List Int)}, RVs K F vs xs → tints xs = some ts → ∃ ks : List (Addr × List Int), vs = ks.map (fun p => V.ref p.1) ∧ ts = ks.map (·.2) ∧ ∀ p ∈ ks, F p.1 = some (.tup (p.2.map V.int))
  | _, [], ts, r, h => by cases h; cases r; exact ⟨[], rfl, rfl, fun p hp => nomatch hp⟩
  | v :: vs, .d (.tuple ds) :: xs, ts, .cons r q, h => by
    unfold tints at h
    split at h
    · rename_i a ea
      cases e : tints xs with
      | none => rw [e] at h; cases h
      | some l =>
        rw [e] at h
        cases h
        obtain ⟨ks, h1, h2, h3⟩ := tints_rvs q e
        cases r with
        | d r =>
          cases r with
          | tup q2 s2 =>
            rename_i p ws
            obtain ⟨e1, _⟩ := dints_rvs s2.rvs ea
            subst e1
            refine ⟨(p, a) :: ks, by rw [h1]; rfl, by rw [h2]; rfl, fun z hz => ?_⟩
            rcases List.mem_cons.mp hz with e | hz
            · rw [e]; exact q2
            · exact h3 z hz
    · cases h
  | _, .d .none :: _, _, _, h => by cases h
  | _, .d (.bool _) :: _, _, _, h => by cases h
  | _, .d (.int _) :: _, _, _, h => by cases h
  | _, .d (.str _) :: _, _, _, h => by cases h
  | _, .d (.list _) :: _, _, _, h => by cases h
  | _, .d (.dict _) :: _, _, _, h => by cases h
  | _, .r _ :: _, _, _, h => by cases h
  | _, .t _ :: _, _, _, h => by cases h
end
end DL
end
section
set_option Elab.async false
set_option linter.all false
set_option maxRecDepth 100000
set_option maxHeartbeats 4000000
namespace DL
open PySem L2 PyProof.Rows
section
variable {P : Program} {w : World} {K : PySem.W.Frag} {mg : Str → Option Value} {base : Heap} {X : Cx} {N : List Str} {sc fs : Scope} {k : Nat}
theorem readsAll_of {h : Heap} : ∀ {vs : List Value} {ns : List Int}, IntsAre vs ns → ReadsAll h vs (ns.map .int) []
  | _, _, .nil => .nil
  | _, _, .cons n t r => .cons (.int n t) (readsAll_of r)
def rMax1 (K : PySem.W.Frag) : List V → Hp → VK → Prop := fun vs H Q => ∃ (a : Addr) (n : Int) (ns : List Int), vs = [V.ref a] ∧ (SqL K H a ((n :: ns).map V.int) ∨ SqT K H a ((n :: ns).map V.int)) ∧ Q (.int (ns.foldl max n)) H
def rMin1 (K : PySem.W.Frag) : List V → Hp → VK → Prop := fun vs H Q => ∃ (a : Addr) (n : Int) (ns : List Int), vs = [V.ref a] ∧ (SqL K H a ((n :: ns).map V.int) ∨ SqT K H a ((n :: ns).map V.int)) ∧ Q (.int (ns.foldl min n)) H
theorem alike_ints (ns : List Int) : PySem.W.AlikeAll (ns.map PyData.int) := PySem.W.alikeAll_datum ns
theorem dep_ints : ∀ ns : List Int, PyData.depthAll (ns.map PyData.int) = 0
  | [] => rfl
  | n :: ns => by
    simp only [List.map_cons, PyData.depthAll, PyData.depth, dep_ints ns]
    rfl
theorem cr_max1 (hc : X.calm = true) (hu : X.A.units + 64 < cLine) : CallR X (.builtin "max") (rMax1 X.K) := by
  intro pins s σ H vs us Q I r h
  obtain ⟨a, n, ns, rfl, hs, q⟩ := h
  rw [Vals.ref1 r]
  have fin : ∀ (v : Value) h' tk bs, PySem.Reads h' v (PySem.W.maxD (.int n) (ns.map .int)) bs → (∀ b o, s.heap.get? b = some o → h'.get? b = some o) → ∃ x H', Inv X pins σ H' { s with heap := h', toks := tk } ∧ RelV x v ∧ Q x H' := by
    intro v h' tk bs hr hk
    rw [PySem.W.maxD_ints] at hr
    cases hr with
    | int _ t => exact ⟨.int _, H, I.kept fun b o e => hk b o e, ⟨t, rfl⟩, q⟩
  rcases hs with hs | hs
  · obtain ⟨its, rv, hl, _⟩ := I.list hs
    exact PySem.W.max_list_data (I.ok.hd hc) hl.isList (readsAll_of rv.ints) (alike_ints (n :: ns)) (by rw [← List.map_cons, dep_ints]; omega) fun i v h' tk bs _ hr hk => fin v h' tk bs hr hk
  · obtain ⟨its, rv, ⟨ol, o1, o2, m, o3⟩, _⟩ := I.tuple hs
    exact PySem.W.max_tuple_data (I.ok.hd hc) ⟨ol, o1, o2, m, o3⟩ (readsAll_of rv.ints) (alike_ints (n :: ns)) (by rw [← List.map_cons, dep_ints]; omega) fun i v h' tk bs _ hr hk => fin v h' tk bs hr hk
theorem cr_min1 (hc : X.calm = true) (hu : X.A.units + 64 < cLine) : CallR X (.builtin "min") (rMin1 X.K) := by
  intro pins s σ H vs us Q I r h
  obtain ⟨a, n, ns, rfl, hs, q⟩ := h
  rw [Vals.ref1 r]
  have fin : ∀ (v : Value) h' tk bs, PySem.Reads h' v (PySem.W.minD (.int n) (ns.map .int)) bs → (∀ b o, s.heap.get? b = some o → h'.get? b = some o) → ∃ x H', Inv X pins σ H' { s with heap := h', toks := tk } ∧ RelV x v ∧ Q x H' := by
    intro v h' tk bs hr hk
    rw [PySem.W.minD_ints] at hr
    cases hr with
    | int _ t => exact ⟨.int _, H, I.kept fun b o e => hk b o e, ⟨t, rfl⟩, q⟩
  rcases hs with hs | hs
  · obtain ⟨its, rv, hl, _⟩ := I.list hs
    exact PySem.W.min_list_data (I.ok.hd hc) hl.isList (readsAll_of rv.ints) (alike_ints (n :: ns)) (by rw [← List.map_cons, dep_ints]; omega) fun i v h' tk bs _ hr hk => fin v h' tk bs hr hk
  · obtain ⟨its, rv, ⟨ol, o1, o2, m, o3⟩, _⟩ := I.tuple hs
    exact PySem.W.min_tuple_data (I.ok.hd hc) ⟨ol, o1, o2, m, o3⟩ (readsAll_of rv.ints) (alike_ints (n :: ns)) (by rw [← List.map_cons, dep_ints]; omega) fun i v h' tk bs _ hr hk => fin v h' tk bs hr hk
def qMax1 : RLD := fun xs st Q => match xs with
  | [x] => (match (sitems st x).bind dints with | some (n :: ns) => Q (.d (.int (ns.foldl max n))) st | _ => False)
  | _ => False
def qMin1 : RLD := fun xs st Q => match xs with
  | [x] => (match (sitems st x).bind dints with | some (n :: ns) => Q (.d (.int (ns.foldl min n))) st | _ => False)
  | _ => False
theorem c_max1 (hc : X.calm = true) (hu : X.A.units + 64 < cLine) : ∃ r', CallR X (.builtin "max") r' ∧ SL X.K r' qMax1 := by
  refine ⟨_, cr_max1 hc hu, ?_⟩
  intro F H st vs xs Qd Q R rv h kk
  unfold qMax1 at h
  split at h
  rotate_left
  · exact h.elim
  obtain ⟨v, rfl, r⟩ := rvs1 rv
  split at h
  rotate_left
  · exact h.elim
  rename_i n ns e
  obtain ⟨l, e1, e2⟩ := Option.bind_eq_some_iff.mp e
  obtain ⟨p, ys, rfl, hq, s⟩ := sitems_rv R r e1
  obtain ⟨rfl, _⟩ := dints_rvs s e2
  exact ⟨p, n, ns, rfl, hq, kk.at R (.d (.int _)) h⟩
theorem c_min1 (hc : X.calm = true) (hu : X.A.units + 64 < cLine) : ∃ r', CallR X (.builtin "min") r' ∧ SL X.K r' qMin1 := by
  refine ⟨_, cr_min1 hc hu, ?_⟩
  intro F H st vs xs Qd Q R rv h kk
  unfold qMin1 at h
  split at h
  rotate_left
  · exact h.elim
  obtain ⟨v, rfl, r⟩ := rvs1 rv
  split at h
  rotate_left
  · exact h.elim
  rename_i n ns e
  obtain ⟨l, e1, e2⟩ := Option.bind_eq_some_iff.mp e
  obtain ⟨p, ys, rfl, hq, s⟩ := sitems_rv R r e1
  obtain ⟨rfl, _⟩ := dints_rvs s e2
  exact ⟨p, n, ns, rfl, hq, kk.at R (.d (.int _)) h⟩
end
end DL
end
section
set_option Elab.async false
set_option linter.all false
set_option maxRecDepth 100000
set_option maxHeartbeats 4000000
namespace DL
open PySem L2 PyProof.Rows
section
variable {P : Program} {w : World} {K : PySem.W.Frag} {mg : Str → Option Value} {base : Heap} {X : Cx} {N : List Str} {sc fs : Scope} {k : Nat}
/-- [e for x in a if .. for y in b if ..] -/
def qCompO (inv : Sto → Prop) (g : TDg) (tt : TDt) (ti1 : TDi) (g1 : TDg) (tt1 : TDt) (te : TD) (vs1 : List Nat) (ε : Env) (Kc : List DV → Sto → Prop) : List DV → List DV → Sto → Prop
  | [], acc, st => inv st ∧ Kc acc st
  | x :: r, acc, st => inv st ∧ g x ε st fun ε1 s1 => tt ε1 s1 fun b s2 => if b = true then ti1 ε1 s2 fun items1 inv1 s3 => acc.length + items1.length ≤ sizeLine ∧ qComp inv1 g1 tt1 te (wipeD ε1 vs1) (fun acc' s4 => qCompO inv g tt ti1 g1 tt1 te vs1 ε Kc r acc' s4) items1 acc s3
      else qCompO inv g tt ti1 g1 tt1 te vs1 ε Kc r acc s2
def qLc2 (m : Bool) (ti : TDi) (g : TDg) (tt : TDt) (ti1 : TDi) (g1 : TDg) (tt1 : TDt) (te : TD) (vs vs1 : List Nat) : TD := fun ε st Q => ti ε st fun items inv s1 => qCompO inv g tt ti1 g1 tt1 te vs1 (wipeD ε vs) (fun acc s2 => newL m acc s2 Q) items [] s1
end
end DL
end
section
set_option Elab.async false
set_option linter.all false
set_option maxRecDepth 100000
set_option maxHeartbeats 4000000
namespace DL
open PySem L2 PyProof.Rows
section
variable {P : Program} {w : World} {K : PySem.W.Frag} {mg : Str → Option Value} {base : Heap} {X : Cx} {N : List Str} {sc fs : Scope} {k : Nat}
def qComb : RLD := fun xs st Q => match xs with
  | [.d (.int a), .d (.int b)] => 0 ≤ a ∧ 0 ≤ b ∧ a < 2 ^ 64 ∧ (b ≤ 9000 ∨ a ≤ 18000) ∧ Q (.d (.int (PySem.W.mcComb a b))) st
  | _ => False
def qGcd : RLD := fun xs st Q => match xs with
  | [.d (.int a), .d (.int b)] => Q (.d (.int ((Nat.gcd a.natAbs b.natAbs : Nat) : Int))) st
  | _ => False
end
end DL
end
section
set_option Elab.async false
set_option linter.all false
set_option maxRecDepth 100000
set_option maxHeartbeats 4000000
namespace DL
open PySem PySem.Spec L2 PyProof.Rows
section
variable {P : Program} {w : World} {K : PySem.W.Frag} {mg : Str → Option Value} {base : Heap} {X : Cx} {N : List Str} {sc fs : Scope} {k : Nat}
/-- list(range(e)) -/
def qListRg (m : Bool) (te : TD) : TD := fun ε st Q => te ε st fun x s1 => match x with
  | .d (.int n) => 0 ≤ n ∧ n ≤ 16777216 ∧ newL m (rngD 0 n.toNat) s1 Q
  | _ => False
theorem rg_rvs {F : Hp} (n : Int) : RVs K F (rgV 0 n) (rngD 0 n.toNat) := by
  unfold rgV rngD
  rw [Int.sub_zero]
  induction (List.range n.toNat) with
  | nil => exact .nil
  | cons i l ih => exact .cons (.d (.int _)) ih
theorem de_listRg {e : Expr} {te : TD} {p p2 pos pos2 : Pos} (m : Bool) (c : Cok P w K mg base X N sc fs k) (hg : glB sc "list" = true) (hm : mg "list" = none) (hg2 : glB sc "range" = true) (hm2 : mg "range" = none) (ha : DE X e te)
    (he : starEach [e] X.env = [(false, eval e X.env)] := by rfl) : DE X (.Call (.Name "list" p) [.Call (.Name "range" p2) [e] [] pos2] [] pos) (qListRg m te) := by
  obtain ⟨t1, p1, a1⟩ := ha
  have g := gl_of c hg
  have g2 := gl_of c hg2
  refine ⟨⟨_, pe_listRg c.calm g.1 (by rw [c.hmg]; exact hm) (prg_1 g2.1 (by rw [c.hmg]; exact hm2) p1 he) rfl, fun F σ H ε st Qd Q R E h kk => ?_⟩⟩
  refine a1.go (W := fun x H1 => _) R E h kk fun F1 H1 s1 v y R1 E1 rv q kk => ?_
  split at q
  · rename_i n
    cases rv_int rv
    obtain ⟨h1, h2, q⟩ := q
    exact ⟨n, rfl, RgOk.of_le (by omega) (by omega) (by omega) h1, fun pp hp => new_lst R1 (rg_rvs n) hp q kk⟩
  · exact q.elim
end
end DL
end
section
set_option Elab.async false
set_option linter.all false
set_option maxRecDepth 100000
set_option maxHeartbeats 4000000
namespace BS
open PySem L2
/-- the masks that come -/
def MaskB (m : Nat) : Prop := m = 7 ∨ m = 31 ∨ m = 127 ∨ m = 511 ∨ m = 2047 ∨ m = 8191
/-- the slots that n steps from i meet, as bits -/
def bitsOf (m : Nat) : Nat → Nat → Nat → Nat
  | 0, _, acc => acc
  | n + 1, i, acc => bitsOf m n ((i * 5 + 1) % (m + 1)) (acc ||| (1 <<< i))
theorem bitsOf_spec (m : Nat) : ∀ (n a acc j : Nat), (bitsOf m n (lcgN m a) acc).testBit j = true → acc.testBit j = true ∨ ∃ b, b < n ∧ lcgN m (a + b) = j
  | 0, _, _, _, h => .inl h
  | n + 1, a, acc, j, h => by
    rcases bitsOf_spec m n (a + 1) _ j h with h | ⟨b, hb, e⟩
    · rw [Nat.testBit_or, Bool.or_eq_true] at h
      rcases h with h | h
      · exact .inl h
      · refine .inr ⟨0, Nat.zero_lt_succ _, ?_⟩
        rw [Nat.shiftLeft_eq, Nat.one_mul, Nat.testBit_two_pow] at h
        exact of_decide_eq_true h
    · exact .inr ⟨b + 1, by omega, by rw [show a + (b + 1) = a + 1 + b by omega]; exact e⟩
theorem met {m : Nat} (h : bitsOf m (m + 1) 0 0 = 2 ^ (m + 1) - 1) {j : Nat} (hj : j ≤ m) : ∃ b, b ≤ m ∧ lcgN m b = j := by
  have e : (bitsOf m (m + 1) (lcgN m 0) 0).testBit j = true := by
    show (bitsOf m (m + 1) 0 0).testBit j = true
    rw [h, Nat.testBit_two_pow_sub_one]
    exact decide_eq_true (by omega)
  rcases bitsOf_spec m (m + 1) 0 0 j e with h | ⟨b, hb, e⟩
  · rw [Nat.zero_testBit] at h
    cases h
  · exact ⟨b, by omega, by rw [← e, Nat.zero_add]⟩
theorem all7 : bitsOf 7 8 0 0 = 2 ^ 8 - 1 := by decide +kernel
theorem all31 : bitsOf 31 32 0 0 = 2 ^ 32 - 1 := by decide +kernel
theorem all127 : bitsOf 127 128 0 0 = 2 ^ 128 - 1 := by decide +kernel
theorem all511 : bitsOf 511 512 0 0 = 2 ^ 512 - 1 := by decide +kernel
theorem all2047 : bitsOf 2047 2048 0 0 = 2 ^ 2048 - 1 := by decide +kernel
theorem all8191 : bitsOf 8191 8192 0 0 = 2 ^ 8192 - 1 := by decide +kernel
theorem lcg_met {m : Nat} (hm : MaskB m) {j : Nat} (hj : j ≤ m) : ∃ b, b ≤ m ∧ lcgN m b = j := by
  rcases hm with rfl | rfl | rfl | rfl | rfl | rfl
  · exact met all7 hj
  · exact met all31 hj
  · exact met all127 hj
  · exact met all511 hj
  · exact met all2047 hj
  · exact met all8191 hj
/-- the last step of a round, without the steps -/
def lastOf (m : Nat) : Nat → Nat → Nat
  | 0, i => i
  | n + 1, i => lastOf m n ((i * 5 + 1) % (m + 1))
theorem lastOf_spec (m : Nat) : ∀ (n a : Nat), lastOf m n (lcgN m a) = lcgN m (a + n)
  | 0, _ => rfl
  | n + 1, a => by
    have := lastOf_spec m n (a + 1)
    rw [show a + (n + 1) = a + 1 + n by omega]
    exact this
theorem round7 : lastOf 7 8 0 = 0 := by decide +kernel
theorem round31 : lastOf 31 32 0 = 0 := by decide +kernel
theorem round127 : lastOf 127 128 0 = 0 := by decide +kernel
theorem round511 : lastOf 511 512 0 = 0 := by decide +kernel
theorem round2047 : lastOf 2047 2048 0 = 0 := by decide +kernel
theorem round8191 : lastOf 8191 8192 0 = 0 := by decide +kernel
theorem lcg_again {m : Nat} (hm : MaskB m) : lcgN m (m + 1) = 0 := by
  have key : ∀ m, lastOf m (m + 1) 0 = 0 → lcgN m (m + 1) = 0 := fun m h => by
    have := lastOf_spec m (m + 1) 0
    rw [Nat.zero_add] at this
    rw [← this]
    exact h
  rcases hm with rfl | rfl | rfl | rfl | rfl | rfl
  · exact key _ round7
  · exact key _ round31
  · exact key _ round127
  · exact key _ round511
  · exact key _ round2047
  · exact key _ round8191
theorem lcg_per {m : Nat} (hm : MaskB m) (k : Nat) : lcgN m (m + 1 + k) = lcgN m k := by
  induction k with
  | zero => exact lcg_again hm
  | succ k ih =>
    show (lcgN m (m + 1 + k) * 5 + 1) % (m + 1) = _
    rw [ih]
    rfl
/-- each slot begins a run early enough -/
theorem run_met {m : Nat} (hm : MaskB m) (h : Int) {j : Nat} (hj : j ≤ m) : ∃ n, n ≤ m + 12 ∧ runI m (SetTable.bits h) n = j := by
  obtain ⟨a, ha, ea⟩ := lcg_met hm (runI_le m (SetTable.bits h) 12)
  obtain ⟨b, hb, eb⟩ := lcg_met hm hj
  have step : ∀ k, runI m (SetTable.bits h) (12 + k) = lcgN m (a + k) := fun k => by rw [runI_tail (bits_lt h), ← ea, lcgN_add]
  by_cases c : b < a
  · refine ⟨12 + (b + (m + 1) - a), by omega, ?_⟩
    rw [step, show a + (b + (m + 1) - a) = m + 1 + b by omega, lcg_per hm, eb]
  · refine ⟨12 + (b - a), by omega, ?_⟩
    rw [step, show a + (b - a) = b by omega, eb]
theorem way_met {m : Nat} (hm : MaskB m) (h : Int) {j : Nat} (hj : j ≤ m) : ∃ k, k < 10 * SetTable.turns m ∧ way m h k = j := by
  obtain ⟨n, hn, e⟩ := run_met hm h hj
  obtain ⟨k, hk, e2⟩ := run_nth m (SetTable.bits h) n
  refine ⟨k, by unfold SetTable.turns; omega, ?_⟩
  show (nth m (runAt m (SetTable.bits h % (m + 1)) (SetTable.bits h)) k).j = j
  rw [e2]
  exact e
theorem way_in (m : Nat) (h : Int) (k : Nat) : way m h k ≤ m := by
  have hi : SetTable.bits h % (m + 1) ≤ m := Nat.le_of_lt_succ (Nat.mod_lt _ (Nat.succ_pos _))
  have r := runEnd_bd hi
  have q := nth_in (m := m) k (runAt m (SetTable.bits h % (m + 1)) (SetTable.bits h)) (show SetTable.bits h % (m + 1) + (SetTable.runEnd m (SetTable.bits h % (m + 1)) - SetTable.bits h % (m + 1)) ≤ m by omega)
  show (nth m (runAt m (SetTable.bits h % (m + 1)) (SetTable.bits h)) k).j ≤ m
  omega
theorem odd {m : Nat} (h : MaskB m) : m % 2 = 1 := by
  rcases h with rfl | rfl | rfl | rfl | rfl | rfl <;> rfl
theorem turns_le {m : Nat} (h : MaskB m) : 10 * SetTable.turns m < 100000 := by
  unfold SetTable.turns
  rcases h with rfl | rfl | rfl | rfl | rfl | rfl <;> decide
end BS
end
section
set_option Elab.async false
set_option linter.all false
set_option maxRecDepth 100000
set_option maxHeartbeats 4000000
namespace BS
open PySem L2
/-- a table in which each hash is met on its way ahead of any empty slot -/
structure Tb (t : SetTable) (hs : List Int) : Prop where
  ris : L2.Ris t.place.toList
  dm : t.dummies = #[]
  sz : t.place.toList.length = hs.length
  mok : MaskB t.mask
  bd : ∀ x ∈ t.place.toList, x ≤ t.mask
  reach : ∀ (i : Nat) (h : Int) (j : Nat), hs[i]? = some h → t.place.toList[i]? = some j → ∃ k, way t.mask h k = j ∧ ∀ k', k' < k → way t.mask h k' ∈ t.place.toList
theorem Tb.first {t : SetTable} {hs : List Int} (T : Tb t hs) (hl : hs.length ≤ t.mask) (h : Int) : ∃ K, K < 10 * SetTable.turns t.mask ∧ way t.mask h K ∉ t.place.toList ∧ ∀ k, k < K → way t.mask h k ∈ t.place.toList := by
  obtain ⟨j, hj, hn⟩ := st_missing t.place.toList (t.mask + 1) (by rw [T.sz]; omega)
  obtain ⟨k, hk, rfl⟩ := way_met T.mok h (j := j) (by omega)
  obtain ⟨K, h1, h2, h3⟩ := st_least (p := fun k => way t.mask h k ∉ t.place.toList) k hn
  exact ⟨K, by omega, h2, fun k' hk' => Classical.byContradiction fun c => h3 k' hk' c⟩
theorem Tb.before {t : SetTable} {hs : List Int} (T : Tb t hs) {h : Int} {K i j : Nat} (hK : way t.mask h K ∉ t.place.toList) (hi : hs[i]? = some h) (hj : t.place.toList[i]? = some j) : ∃ k, k < K ∧ way t.mask h k = j := by
  obtain ⟨k, e, hb⟩ := T.reach i h j hi hj
  refine ⟨k, Classical.byContradiction fun c => ?_, e⟩
  by_cases d : K = k
  · subst d
    exact hK (e ▸ List.mem_of_getElem? hj)
  · exact hK (hb K (by omega))
theorem Tb.put {t : SetTable} {hs : List Int} (T : Tb t hs) {h : Int} {K : Nat} (hK : way t.mask h K ∉ t.place.toList) (hb : ∀ k, k < K → way t.mask h k ∈ t.place.toList) :
    SetTable.below t.place (way t.mask h K) ≤ hs.length ∧ Tb (t.put (way t.mask h K)).1 (hs.take (SetTable.below t.place (way t.mask h K)) ++ h :: hs.drop (SetTable.below t.place (way t.mask h K))) ∧ (t.put (way t.mask h K)).1.fill = hs.length + 1 := by
  have hjm := way_in t.mask h K
  generalize hj : way t.mask h K = j at *
  have hp : SetTable.below t.place j ≤ t.place.toList.length := by
    rw [Array.length_toList]
    exact (below_cut T.ris j).1
  have hph : SetTable.below t.place j ≤ hs.length := by rw [← T.sz]; exact hp
  have hpp := put_place t j
  have hlen : (t.put j).1.place.toList.length = hs.length + 1 := by rw [hpp, len_ins _ hp, T.sz]
  have up : ∀ {x : Nat}, x ∈ t.place.toList → x ∈ (t.put j).1.place.toList := fun hx => by
    rw [hpp]
    exact mem_ins.2 (.inr hx)
  refine ⟨hph, ⟨ris_insert T.ris fun e => hK (List.mem_of_getElem? (by rw [Array.getElem?_toList]; exact e)), put_dm T.dm j, ?_, T.mok, fun x hx => ?_, fun i h' j' h1 h2 => ?_⟩, ?_⟩
  · rw [hlen, len_ins _ hph]
  · rw [hpp] at hx
    rcases mem_ins.1 hx with rfl | z
    · exact hjm
    · exact T.bd x z
  · rw [tins_get hs hph] at h1
    rw [hpp, tins_get _ hp] at h2
    show ∃ k, way t.mask h' k = j' ∧ ∀ k', k' < k → way t.mask h' k' ∈ (t.put j).1.place.toList
    have old : ∀ i', hs[i']? = some h' → t.place.toList[i']? = some j' → ∃ k, way t.mask h' k = j' ∧ ∀ k', k' < k → way t.mask h' k' ∈ (t.put j).1.place.toList := fun i' a b => by
      obtain ⟨k, e, z⟩ := T.reach i' h' j' a b
      exact ⟨k, e, fun k' hk' => up (z k' hk')⟩
    by_cases c : i < SetTable.below t.place j
    · rw [if_pos c] at h1 h2
      exact old i h1 h2
    · rw [if_neg c] at h1 h2
      by_cases d : i = SetTable.below t.place j
      · rw [if_pos d] at h1 h2
        cases h1
        cases h2
        exact ⟨K, hj, fun k' hk' => up (hb k' hk')⟩
      · rw [if_neg d] at h1 h2
        exact old (i - 1) h1 h2
  · show (t.put j).1.place.size + (t.put j).1.dummies.size = hs.length + 1
    rw [← Array.length_toList, hlen, put_dm T.dm j]
    rfl
theorem free_at {m : Nat} (hm : MaskB m) (owner : Array (Option Nat)) (h : Int) {j : Nat} (hj : j ≤ m) (hf : oAt owner j = none) :
    ∃ K, SetTable.layClean.free m owner (SetTable.turns m) (SetTable.bits h % (m + 1)) (SetTable.bits h) = some (way m h K) ∧ oAt owner (way m h K) = none ∧ ∀ k, k < K → oAt owner (way m h k) ≠ none := by
  obtain ⟨n, hn, e⟩ := run_met hm h hj
  have hw : way m h (off m (SetTable.bits h % (m + 1)) (SetTable.bits h) n) = j := by
    show (nth m (runAt m (SetTable.bits h % (m + 1)) (SetTable.bits h)) _).j = j
    rw [nth_off, itL_run]
    exact e
  obtain ⟨K, k1, k2, k3⟩ := st_least (p := fun k => oAt owner (way m h k) = none) _ (show oAt owner (way m h (off m (SetTable.bits h % (m + 1)) (SetTable.bits h) n)) = none by rw [hw]; exact hf)
  refine ⟨K, free_spec m owner (SetTable.turns m) n _ _ K (by unfold SetTable.turns; omega) k1 (fun k hk => ?_) ?_, k2, k3⟩
  · cases z : oAt owner (nth m (runAt m (SetTable.bits h % (m + 1)) (SetTable.bits h)) k).j with
    | none => exact absurd z (k3 k hk)
    | some _ => rfl
  · show (oAt owner (way m h K)).isNone = true
    rw [k2]
    rfl
theorem own_step {m : Nat} (hm : MaskB m) {done : List Int} {owner : Array (Option Nat)} (W : Own m done owner) (hl : done.length ≤ m) (h : Int) :
    ∃ j, SetTable.layClean.free m owner (SetTable.turns m) (SetTable.bits h % (m + 1)) (SetTable.bits h) = some j ∧ Own m (done ++ [h]) (owner.setIfInBounds j (some done.length)) := by
  obtain ⟨ps, hps, hin⟩ := W.ps
  obtain ⟨j0, h0, hn0⟩ := st_missing ps (m + 1) (by omega)
  have hj0 : oAt owner j0 = none := Classical.byContradiction fun z => hn0 (hin j0 (by omega) z)
  obtain ⟨K, e1, e2, e3⟩ := free_at hm owner h (show j0 ≤ m by omega) hj0
  have hjm := way_in m h K
  refine ⟨way m h K, e1, ?_⟩
  generalize hw : way m h K = x at *
  have hself : oAt (owner.setIfInBounds x (some done.length)) x = some done.length := oAt_set_self _ (by rw [W.sz]; omega)
  have keep : ∀ {i : Nat}, i ≠ x → oAt (owner.setIfInBounds x (some done.length)) i = oAt owner i := fun c => oAt_set_ne _ c
  have mono : ∀ {i : Nat}, oAt owner i ≠ none → oAt (owner.setIfInBounds x (some done.length)) i ≠ none := fun {i} hi => by
    by_cases c : i = x
    · rw [c, hself]; exact nofun
    · rw [keep c]; exact hi
  refine ⟨by rw [Array.size_setIfInBounds]; exact W.sz, fun j k hj e => ?_, fun k hk => ?_, ⟨x :: ps, by simp [hps], fun j hj e => ?_⟩⟩
  · by_cases c : j = x
    · rw [c, hself] at e
      cases e
      exact ⟨h, K, by simp, by rw [hw, c], fun k' hk' => mono (e3 k' hk')⟩
    · rw [keep c] at e
      obtain ⟨h', K', a1, a2, a3⟩ := W.at_ j k hj e
      refine ⟨h', K', ?_, a2, fun k' hk' => mono (a3 k' hk')⟩
      rw [List.getElem?_append_left (List.getElem?_eq_some_iff.mp a1).1]
      exact a1
  · rw [List.length_append, List.length_singleton] at hk
    by_cases c : k < done.length
    · obtain ⟨j, hj, e⟩ := W.all k c
      exact ⟨j, hj, by rw [keep (fun z => by rw [z, e2] at e; cases e)]; exact e⟩
    · rw [show k = done.length by omega]
      exact ⟨x, hjm, hself⟩
  · by_cases c : j = x
    · rw [c]; exact List.mem_cons_self
    · rw [keep c] at e
      exact List.mem_cons_of_mem _ (hin j hj e)
theorem own_all {m : Nat} (hm : MaskB m) : ∀ (rest done : List Int) (owner : Array (Option Nat)), Own m done owner → done.length + rest.length ≤ m →
    ∃ owner', rest.foldl (stepF m) (some (owner, done.length)) = some (owner', (done ++ rest).length) ∧ Own m (done ++ rest) owner'
  | [], done, owner, W, _ => ⟨owner, by simp, by simpa using W⟩
  | h :: rest, done, owner, W, hl => by
    rw [List.length_cons] at hl
    obtain ⟨j, e, W'⟩ := own_step hm W (by omega) h
    obtain ⟨owner', f, W2⟩ := own_all hm rest (done ++ [h]) _ W' (by simp; omega)
    refine ⟨owner', ?_, by simpa using W2⟩
    rw [List.foldl_cons, stepF_some e]
    simpa using f
theorem clean_ok {m : Nat} (hm : MaskB m) {hs : Array Int} (hn : hs.size ≤ m) : ∃ owner, SetTable.layClean m hs = some owner ∧ Own m hs.toList owner := by
  obtain ⟨owner, f, W⟩ := own_all hm hs.toList [] _ (Own.init m) (by simpa using hn)
  refine ⟨owner, ?_, by simpa using W⟩
  rw [layClean_eq]
  have f' : hs.toList.foldl (stepF m) (some (Array.replicate (m + 1) none, 0)) = some (owner, ([] ++ hs.toList).length) := f
  rw [f']
  rfl
theorem relaid_as (t : SetTable) {hs : Array Int} {wanted M : Nat} (hw : SetTable.sizeAbove wanted - 1 = M) (hM : MaskB M) (hn : hs.size ≤ M) :
    ∃ t' order, t.relaid hs wanted = some (t', order) ∧ order.toList.Perm (List.range hs.size) ∧ Tb t' (order.toList.map fun i => hs.getD i 0) ∧ t'.mask = M ∧ t'.led = t.led ∧ t'.plain = t.plain := by
  obtain ⟨owner, e, W⟩ := clean_ok hM hn
  have hz : hs.toList.length = hs.size := rfl
  obtain ⟨r1, r2⟩ : L2.Ris ((liveOf M owner).map (·.1)) ∧ ∀ x ∈ (liveOf M owner).map (·.1), x ∈ List.range (M + 1) := ris_live (fun j => owner.getD j none) (List.range (M + 1)) (by
    unfold L2.Ris
    first | exact List.pairwise_lt_range | exact List.pairwise_lt_range _)
  have nd : ((liveOf M owner).map (·.1)).Nodup := List.Pairwise.imp (fun h => Nat.ne_of_lt h) r1
  have hlen : (liveOf M owner).length = hs.size := by
    obtain ⟨ps, p1, p2⟩ := W.ps
    have a := nat_nodup_len _ ps nd fun x hx => by
      obtain ⟨⟨y, k⟩, hq, rfl⟩ := List.mem_map.mp hx
      obtain ⟨b1, b2⟩ := (mem_live W.sz).1 hq
      exact p2 y b1 (by rw [b2]; exact nofun)
    have b := nat_nodup_len (List.range hs.size) ((liveOf M owner).map (·.2)) List.nodup_range fun k hk => by
      obtain ⟨j, b1, b2⟩ := W.all k (List.mem_range.mp hk)
      exact List.mem_map.mpr ⟨(j, k), (mem_live W.sz).2 ⟨b1, b2⟩, rfl⟩
    rw [List.length_map, p1] at a
    rw [List.length_map, List.length_range] at b
    omega
  refine ⟨tabOf t M owner, ((liveOf M owner).map (·.2)).toArray, by rw [relaid_eq, hw, e]; rfl, perm_range hs.size _ (by show ((liveOf M owner).map (·.2)).length = _; rw [List.length_map]; exact hlen) fun k hk => ?_, ⟨r1, rfl, ?_, hM, fun x hx => ?_, fun i h j h1 h2 => ?_⟩, rfl, rfl, rfl⟩
  · obtain ⟨j, b1, b2⟩ := W.all k hk
    exact List.mem_map.mpr ⟨(j, k), (mem_live W.sz).2 ⟨b1, b2⟩, rfl⟩
  · show ((liveOf M owner).map (·.1)).length = (((liveOf M owner).map (·.2)).map fun i => hs.getD i 0).length
    simp
  · have := List.mem_range.mp (r2 x hx)
    show x ≤ M
    omega
  · have h1' : (((liveOf M owner).map (·.2)).map fun i => hs.getD i 0)[i]? = some h := h1
    have h2' : ((liveOf M owner).map (·.1))[i]? = some j := h2
    rw [List.getElem?_map, List.getElem?_map] at h1'
    rw [List.getElem?_map] at h2'
    cases hq : (liveOf M owner)[i]? with
    | none => rw [hq] at h2'; cases h2'
    | some q =>
      obtain ⟨y, k⟩ := q
      rw [hq] at h1' h2'
      cases h2'
      have eh : hs.getD k 0 = h := Option.some.inj h1'
      obtain ⟨b1, b2⟩ := (mem_live W.sz).1 (List.mem_of_getElem? hq)
      obtain ⟨h0, K, a1, a2, a3⟩ := W.at_ y k b1 b2
      have e0 : hs.getD k 0 = h0 := by
        rw [Array.getD_eq_getD_getElem?, ← Array.getElem?_toList, a1]
        rfl
      rw [e0] at eh
      subst eh
      refine ⟨K, a2, fun k' hk' => ?_⟩
      show way M h0 k' ∈ (liveOf M owner).map (·.1)
      cases z : oAt owner (way M h0 k') with
      | none => exact absurd z (a3 k' hk')
      | some k2 => exact List.mem_map.mpr ⟨(way M h0 k', k2), (mem_live W.sz).2 ⟨way_in M h0 k', z⟩, rfl⟩
theorem size_5 : SetTable.sizeAbove (SetTable.grown 5) = 32 := by decide +kernel
theorem size_19 : SetTable.sizeAbove (SetTable.grown 19) = 128 := by decide +kernel
theorem size_77 : SetTable.sizeAbove (SetTable.grown 77) = 512 := by decide +kernel
theorem size_307 : SetTable.sizeAbove (SetTable.grown 307) = 2048 := by decide +kernel
theorem size_1229 : SetTable.sizeAbove (SetTable.grown 1229) = 8192 := by decide +kernel
end BS
end
section
set_option Elab.async false
set_option linter.all false
set_option maxRecDepth 100000
set_option maxHeartbeats 4000000
namespace BS
open PySem PySem.Spec L2 PyProof.Rows
section
variable {P : Program} {w : World} {A : Around} {E : Value → Shared → Prop} {s : Shared}
structure SetB (P : Program) (w : World) (h : Heap) (a : Addr) (L : List (Addr × List Int)) (es : Array (Int × Value)) (ep : Nat) (t : SetTable) : Prop where
  ob : ∃ o, h.get? a = some o ∧ o.ExactSet ∧ o.data = .set es ep t
  rows : es.toList = rowsOf P w L
  tab : Tb t (L.map fun p => thash P w p.2)
  nd : (L.map (·.2)).Nodup
  tup : ∀ p ∈ L, IsT P w h p.2 p.1
  plain : t.plain = true
  led : w.params.followText "set-order" = true ∨ t.led = true
  room : L.length * 5 < t.mask * 3
variable {a : Addr} {L : List (Addr × List Int)} {es : Array (Int × Value)} {ep : Nat} {t : SetTable}
theorem rows_len {es : Array (Int × Value)} (h : es.toList = rowsOf P w L) : es.size = L.length := by
  have := congrArg List.length h
  simpa [rowsOf] using this
theorem fits_of {t : SetTable} {n : Nat} (h1 : t.place.toList.length = n) (h2 : t.dummies = #[]) (h3 : n ≤ t.mask) : t.fits n = true := by
  unfold SetTable.fits SetTable.fill
  rw [h2, Bool.and_eq_true, beq_iff_eq, decide_eq_true_eq, ← Array.length_toList, h1]
  exact ⟨rfl, h3⟩
theorem SetB.sz (R : SetB P w s.heap a L es ep t) : t.place.toList.length = L.length := by
  rw [R.tab.sz, List.length_map]
theorem SetB.fits (R : SetB P w s.heap a L es ep t) : t.fits es.size = true := by
  have := R.room
  exact fits_of (by rw [R.sz, rows_len R.rows]) R.tab.dm (by rw [rows_len R.rows]; omega)
theorem SetB.entry (R : SetB P w s.heap a L es ep t) {i : Nat} {p : Addr × List Int} (h : L[i]? = some p) : es[i]? = some (thash P w p.2, Value.ref p.1) := by
  rw [← Array.getElem?_toList, R.rows]
  unfold rowsOf
  rw [List.getElem?_map, h]
  rfl
theorem SetB.gw (R : SetB P w s.heap a L es ep t) : ¬ t.gaveWay = true := by
  unfold SetTable.gaveWay
  rw [odd R.tab.mok]
  decide
theorem nth_dummy (m : Nat) : ∀ (n : Nat) (p : SetTable.Probe), p.dummy = none → (nth m p n).dummy = none
  | 0, _, h => h
  | n + 1, p, h => nth_dummy m n (adv m p) (by unfold adv; split <;> exact h)
/-- the way's c-th state -/
abbrev stt (m : Nat) (h : Int) (c : Nat) : SetTable.Probe := nth m (runAt m (SetTable.bits h % (m + 1)) (SetTable.bits h)) c
theorem stt_add (m : Nat) (h : Int) (c q : Nat) : nth m (stt m h c) q = stt m h (c + q) := (nth_add m c _ q).symm
theorem stt_j (m : Nat) (h : Int) (c q : Nat) : (nth m (stt m h c) q).j = way m h (c + q) := congrArg SetTable.Probe.j (stt_add m h c q)
/-- the search, from the c-th state on -/
theorem seek (R : SetB P w s.heap a L es ep t) {x : Addr} {k : List Int} (hx : IsT P w s.heap k x) (hu : A.units < cLine) {K : Nat} (hKf : K < 10 * SetTable.turns t.mask)
    (hK : way t.mask (thash P w k) K ∉ t.place.toList) (hKb : ∀ c, c < K → way t.mask (thash P w k) c ∈ t.place.toList) {Q : SetFound → Shared → Prop}
    (hin : k ∈ L.map (·.2) → Q (.there none) s) (hout : k ∉ L.map (·.2) → Q (.free (way t.mask (thash P w k) K) false) s) :
    ∀ (f c : Nat) (stand : Option SetTable.Probe), stand.getD (t.probeStart (thash P w k)) = stt t.mask (thash P w k) c → c ≤ K → K - c < f →
      (∀ (i : Nat) p, L[i]? = some p → p.2 = k → ∃ c', c ≤ c' ∧ c' < K ∧ t.place.toList[i]? = some (way t.mask (thash P w k) c')) →
      wpAny (model P w) A (setSearchFrom a (.ref x) (thash P w k) true f stand) Q E s := by
  intro f
  induction f with
  | zero => intro c stand _ _ hf; exact absurd hf (Nat.not_lt_zero _)
  | succ f ih =>
  intro c stand hst hc hf hre
  obtain ⟨o, ho, hex, hd⟩ := R.ob
  rw [setSearchFrom_succ]
  refine wpAny_bind (wpAny_setState_of ho hd R.fits ?_)
  dsimp only
  refine wp_if_neg R.gw ?_
  try refine wpAny_bind (wpAny_pure ?_)
  have ha : ∀ (i : Nat) p, L[i]? = some p → (fun i => (es[i]?.map (·.1)).getD 0) i = thash P w p.2 := fun i p hp => by
    show (es[i]?.map (·.1)).getD 0 = _
    rw [R.entry hp]
    rfl
  rcases go_spec t R.tab.ris R.tab.dm (fun i => (es[i]?.map (·.1)).getD 0) (thash P w k) (10 * SetTable.turns t.mask) (K - c) _ (nth_dummy t.mask c _ rfl) (by omega)
      (fun q hq => by rw [stt_j]; exact hKb (c + q) (by omega)) (by rw [stt_j, show c + (K - c) = K by omega]; exact hK) with ⟨q, i, hq, hi, hh, hno, hpr⟩ | ⟨hno, hpr⟩
  · have hpr' : t.probe (fun i => (es[i]?.map (·.1)).getD 0) (thash P w k) (stand.getD (t.probeStart (thash P w k))) = some (.candidate (way t.mask (thash P w k) (c + q)) i (stt t.mask (thash P w k) (c + (q + 1)))) := by
      rw [hst, ← stt_j, ← stt_add]
      exact hpr
    rw [hpr']
    dsimp only
    rw [stt_j] at hi
    have hil : i < L.length := by
      rw [← R.sz]
      exact (List.getElem?_eq_some_iff.mp hi).1
    have hp : L[i]? = some L[i] := List.getElem?_eq_getElem hil
    generalize hpe : L[i] = p at hp
    have hmem : p ∈ L := List.mem_of_getElem? hp
    have rest : wpAny (model P w) A (searchRest a (.ref x) (thash P w k) true f es t (way t.mask (thash P w k) (c + q)) i (stt t.mask (thash P w k) (c + (q + 1)))) Q E s := by
      unfold searchRest
      rw [R.entry hp]
      dsimp only
      refine wpAny_bind (wpAny_holding (wpAny_eqBool_tuple hu (R.tup p hmem) hx ?_))
      refine wpAny_bind (wpAny_setState_of ho hd R.fits ?_)
      dsimp only
      by_cases hkk : p.2 = k
      · refine wp_if_pos (by simp [hkk]) ?_
        exact wpAny_pure (hin (List.mem_map.mpr ⟨p, hmem, hkk⟩))
      · refine wp_if_neg (by simp [hkk]) ?_
        try refine wpAny_bind (wpAny_pure ?_)
        rw [sameMem]
        dsimp only
        have hsl : t.slot (way t.mask (thash P w k) (c + q)) = .live i := slot_live R.tab.ris hi
        simp only [if_true, hsl, R.entry hp]
        refine wpAny_bind (wpAny_isSame_ref_self (wpAny_bind (wpAny_pure ?_)))
        simp only [if_true]
        refine wp_if_neg (by simp [hkk]) ?_
        refine ih (c + (q + 1)) _ rfl (by omega) (by omega) fun i0 p0 h0 hk0 => ?_
        obtain ⟨c', a1, a2, a3⟩ := hre i0 p0 h0 hk0
        refine ⟨c', Classical.byContradiction fun z => ?_, a2, a3⟩
        by_cases y : c' = c + q
        · subst y
          have s0 := slot_live R.tab.ris a3
          rw [hsl] at s0
          injection s0 with s0
          subst s0
          rw [hp] at h0
          cases h0
          exact hkk hk0
        · refine hno (c' - c) i0 (by omega) (by rw [stt_j, show c + (c' - c) = c' by omega]; exact a3) ?_
          exact (ha i0 p0 h0).trans (congrArg (thash P w) hk0)
    by_cases hl : t.led = true
    · refine wp_if_neg (by simp [hl]) ?_
      try refine wpAny_bind (wpAny_pure ?_)
      exact rest
    · refine wp_if_pos (by simp [hl]) ?_
      refine wpAny_bind (seen_tup hx (fun y hy => ?_) ?_)
      · obtain ⟨e, he, ee⟩ := List.mem_map.mp hy
        have he1 : e ∈ es ∧ e.1 = thash P w k := by simpa using he
        have he2 : e ∈ es.toList := by simpa using he1.1
        rw [R.rows] at he2
        obtain ⟨p2, hp2, e2⟩ := List.mem_map.mp he2
        exact ⟨p2.2, p2.1, by rw [← ee, ← e2], R.tup p2 hp2⟩
      · refine wp_if_neg (by decide) ?_
        try refine wpAny_bind (wpAny_pure ?_)
        exact rest
  · have hpr' : t.probe (fun i => (es[i]?.map (·.1)).getD 0) (thash P w k) (stand.getD (t.probeStart (thash P w k))) = some (.empty (way t.mask (thash P w k) K) none) := by
      have e2 : way t.mask (thash P w k) K = (nth t.mask (stt t.mask (thash P w k) c) (K - c)).j := by rw [stt_j, show c + (K - c) = K by omega]
      rw [hst, e2]
      exact hpr
    rw [hpr']
    dsimp only
    refine wpAny_pure (hout fun hm => ?_)
    obtain ⟨p0, h0, hk0⟩ := List.mem_map.mp hm
    obtain ⟨i0, h00⟩ := List.mem_iff_getElem?.mp h0
    obtain ⟨c', a1, a2, a3⟩ := hre i0 p0 h00 hk0
    exact hno (c' - c) i0 (by omega) (by rw [stt_j, show c + (c' - c) = c' by omega]; exact a3) ((ha i0 p0 h00).trans (congrArg (thash P w) hk0))
theorem seek_add (R : SetB P w s.heap a L es ep t) {x : Addr} {k : List Int} (hx : IsT P w s.heap k x) (hu : A.units < cLine) {Q : SetFound → Shared → Prop}
    (hin : k ∈ L.map (·.2) → Q (.there none) s)
    (hout : ∀ K, k ∉ L.map (·.2) → way t.mask (thash P w k) K ∉ t.place.toList → (∀ c, c < K → way t.mask (thash P w k) c ∈ t.place.toList) → Q (.free (way t.mask (thash P w k) K) false) s) :
    wpAny (model P w) A (setSearch a (.ref x) (thash P w k) true) Q E s := by
  have hroom := R.room
  obtain ⟨K, hKf, hK, hKb⟩ := R.tab.first (by rw [List.length_map]; omega) (thash P w k)
  have hbig := turns_le R.tab.mok
  unfold setSearch
  refine seek R hx hu hKf hK hKb hin (fun hn => hout K hn hK hKb) 100000 0 none rfl (Nat.zero_le _) (by omega) fun i p hp hk => ?_
  have hi : (L.map fun p => thash P w p.2)[i]? = some (thash P w k) := by rw [List.getElem?_map, hp, ← hk]; rfl
  have hil : i < t.place.toList.length := by
    rw [R.sz]
    exact (List.getElem?_eq_some_iff.mp hp).1
  have hj := List.getElem?_eq_getElem hil
  obtain ⟨c, hc, e⟩ := R.tab.before hK hi hj
  exact ⟨c, Nat.zero_le _, hc, by rw [hj, e]⟩
end
end BS
end
section
set_option Elab.async false
set_option linter.all false
set_option maxRecDepth 100000
set_option maxHeartbeats 4000000
namespace BS
open PySem PySem.Spec L2 PyProof.Rows
section
variable {P : Program} {w : World} {A : Around} {E : Value → Shared → Prop} {s : Shared} {a : Addr} {L : List (Addr × List Int)} {es : Array (Int × Value)} {ep : Nat} {t : SetTable}
theorem lay {o : Obj} (ho : s.heap.get? a = some o) (hex : o.ExactSet) (hd : o.data = .set es ep t) (hrows : es.toList = rowsOf P w L) (T0 : Tb t (L.map fun p => thash P w p.2)) (hfl : L.length ≤ t.mask)
    (nd : (L.map (·.2)).Nodup) (tup : ∀ p ∈ L, IsT P w s.heap p.2 p.1) (pl : t.plain = true) (ld : w.params.followText "set-order" = true ∨ t.led = true) {wanted M : Nat}
    (hw : SetTable.sizeAbove wanted - 1 = M) (hM : MaskB M) (hw2 : SetTable.sizeAbove wanted ≤ 8192) (hn : L.length * 5 < M * 3) {Q : Unit → Shared → Prop}
    (hQ : ∀ h' L' es' ep' t', Heap.SameBut a s.heap h' → SetB P w h' a L' es' ep' t' → L'.Perm L → Q () { s with heap := h' }) : wpAny (model P w) A (setRelay a wanted) Q E s := by
  have hsl := rows_len hrows
  have hfits : t.fits es.size = true := fits_of (by rw [T0.sz, List.length_map, hsl]) T0.dm (by rw [hsl]; exact hfl)
  obtain ⟨t', order, e, hp, T, em, el, epl⟩ := relaid_as t (hs := es.map (·.1)) (wanted := wanted) hw hM (by rw [Array.size_map, hsl]; omega)
  rw [Array.size_map, hsl] at hp
  obtain ⟨L2, r1, r2, r3⟩ := order_rows L es order hrows hp
  rw [← r3] at T
  have hs2 : (order.filterMap (es[·]?)).size = es.size := by rw [rows_len r1, r2.length_eq, hsl]
  have hM2 : L.length < 8192 := by
    rcases hM with rfl | rfl | rfl | rfl | rfl | rfl <;> omega
  rw [setRelay_eq]
  refine wpAny_bind (wpAny_setState_of ho hd hfits ?_)
  dsimp only
  refine wp_if_neg (by rw [sizeLine_eq]; omega) ?_
  try refine wpAny_bind (wpAny_pure ?_)
  rw [e]
  dsimp only
  refine wpAny_bind ?_
  refine wp_if_neg (by rw [hs2]; simp) ?_
  try refine wpAny_bind (wpAny_pure ?_)
  refine wpAny_pure ?_
  dsimp only
  refine wpAny_storeSet_of ho hd ?_ (by rw [hs2, hsl, sizeLine_eq]; omega)
  have sb : Heap.SameBut a s.heap (s.heap.update a (Obj.putSet (order.filterMap (es[·]?)) t')) := Heap.SameBut.update ..
  exact hQ _ L2 (order.filterMap (es[·]?)) (ep + 1) t' sb ⟨⟨_, store_at ho hd, ⟨hex.1, hex.2.1, hex.2.2⟩, rfl⟩, r1, T, (r2.map (·.2)).nodup_iff.mpr nd, fun p hpm => isT_same (tup p (r2.mem_iff.mp hpm)) ho hd sb, by rw [epl]; exact pl, by rw [el]; exact ld, by rw [r2.length_eq, em]; exact hn⟩ r2
/-- when a table is too full, the next is -/
theorem next_mask {m n : Nat} (hm : MaskB m) (hroom : n * 5 < m * 3) (hfull : (n + 1) * 5 ≥ m * 3) (hn : n < 4000) :
    ∃ M, SetTable.sizeAbove (SetTable.grown (n + 1)) - 1 = M ∧ MaskB M ∧ SetTable.sizeAbove (SetTable.grown (n + 1)) ≤ 8192 ∧ (n + 1) * 5 < M * 3 := by
  have key : ∀ (c S : Nat), n + 1 = c → SetTable.sizeAbove (SetTable.grown c) = S → MaskB (S - 1) → S ≤ 8192 → c * 5 < (S - 1) * 3 → ∃ M, SetTable.sizeAbove (SetTable.grown (n + 1)) - 1 = M ∧ MaskB M ∧ SetTable.sizeAbove (SetTable.grown (n + 1)) ≤ 8192 ∧ (n + 1) * 5 < M * 3 := by
    intro c S h1 h2 h3 h4 h5
    subst h1
    exact ⟨S - 1, by rw [h2], h3, by rw [h2]; exact h4, h5⟩
  rcases hm with rfl | rfl | rfl | rfl | rfl | rfl
  · exact key 5 32 (by omega) size_5 (.inr (.inl rfl)) (by decide) (by decide)
  · exact key 19 128 (by omega) size_19 (.inr (.inr (.inl rfl))) (by decide) (by decide)
  · exact key 77 512 (by omega) size_77 (.inr (.inr (.inr (.inl rfl)))) (by decide) (by decide)
  · exact key 307 2048 (by omega) size_307 (.inr (.inr (.inr (.inr (.inl rfl))))) (by decide) (by decide)
  · exact key 1229 8192 (by omega) size_1229 (.inr (.inr (.inr (.inr (.inr rfl))))) (by decide) (by decide)
  · omega
theorem add (R : SetB P w s.heap a L es ep t) {x : Addr} {k : List Int} (hx : IsT P w s.heap k x) (hu : A.units < cLine) (hfew : L.length < 4000) {Q : Bool → Shared → Prop}
    (hQ : ∀ b h' L' es' ep' t', Heap.SameBut a s.heap h' → SetB P w h' a L' es' ep' t' → (k ∈ L.map (·.2) → L' = L) → (k ∉ L.map (·.2) → L'.Perm ((x, k) :: L)) → Q b { s with heap := h' }) :
    wpAny (model P w) A (setAddHashed a (.ref x) (thash P w k)) Q E s := by
  obtain ⟨o, ho, hex, hd⟩ := R.ob
  have hsl := rows_len R.rows
  have hroom := R.room
  unfold setAddHashed
  refine wpAny_holding ?_
  rw [show (100000 : Nat) = 99999 + 1 from rfl, setAddHashedIn_succ]
  refine wpAny_bind (wpAny_setState_of ho hd R.fits ?_)
  dsimp only
  refine wp_if_neg (by simp [byScan, Value.scannable]) ?_
  try refine wpAny_bind (wpAny_pure ?_)
  refine wpAny_bind (seek_add R hx hu (fun hm => ?_) fun K hm hK hb => ?_)
  · dsimp only
    exact wpAny_pure (hQ false s.heap L es ep t (Heap.SameBut.refl a s.heap) R (fun _ => rfl) fun z => absurd hm z)
  · dsimp only
    refine wpAny_bind (wpAny_setState_of ho hd R.fits ?_)
    dsimp only
    obtain ⟨q2, q3, q9⟩ := R.tab.put hK hb
    have q1 : (t.put (way t.mask (thash P w k) K)).2 = SetTable.below t.place (way t.mask (thash P w k) K) := rfl
    have q4 : (t.put (way t.mask (thash P w k) K)).1.mask = t.mask := rfl
    have q5 : (t.put (way t.mask (thash P w k) K)).1.led = t.led := rfl
    have hp1 : (t.put (way t.mask (thash P w k) K)).1.plain = true := R.plain
    generalize hpt : t.put (way t.mask (thash P w k) K) = pt at q1 q3 q4 q5 q9 hp1 ⊢
    obtain ⟨t1, p⟩ := pt
    dsimp only at q1 q3 q4 q5 q9 hp1 ⊢
    subst q1
    first
      | (refine wpAny_bind ?_; refine wp_if_pos hp1 ?_; refine hashBy_tup hx ?_)
      | refine wp_if_pos hp1 (wpAny_bind (hashBy_tup hx ?_))
    simp only [if_true]
    have hin : (SetTable.insertAt es (SetTable.below t.place (way t.mask (thash P w k) K)) (thash P w k, Value.ref x)).toList = rowsOf P w (L.take (SetTable.below t.place (way t.mask (thash P w k) K)) ++ (x, k) :: L.drop (SetTable.below t.place (way t.mask (thash P w k) K))) := by
      rw [SetTable.toList_insertAt, rows_put, R.rows]
    generalize SetTable.below t.place (way t.mask (thash P w k) K) = p at q2 q3 hin ⊢
    have pm := put_perm L p (x, k)
    have hlen : (L.take p ++ (x, k) :: L.drop p).length = L.length + 1 := pm.length_eq
    have hhs : (L.take p ++ (x, k) :: L.drop p).map (fun p => thash P w p.2) = (L.map fun p => thash P w p.2).take p ++ thash P w k :: (L.map fun p => thash P w p.2).drop p := by
      rw [List.map_append, List.map_cons, List.map_take, List.map_drop]
    rw [← hhs] at q3
    have nd1 : ((L.take p ++ (x, k) :: L.drop p).map (·.2)).Nodup := by
      refine (pm.map (·.2)).nodup_iff.mpr ?_
      rw [List.map_cons]
      exact List.nodup_cons.mpr ⟨hm, R.nd⟩
    have hes := rows_len hin
    rw [hlen] at hes
    generalize SetTable.insertAt es p (thash P w k, Value.ref x) = es1 at hin hes ⊢
    generalize L.take p ++ (x, k) :: L.drop p = L1 at pm hlen q3 nd1 hin
    refine wpAny_bind (wpAny_storeSet_of ho hd ?_ (by rw [hes, sizeLine_eq]; omega))
    have sb : Heap.SameBut a s.heap (s.heap.update a (Obj.putSet es1 t1)) := Heap.SameBut.update ..
    have ho1 := store_at (es' := es1) (t' := t1) ho hd
    generalize s.heap.update a (Obj.putSet es1 t1) = h1 at sb ho1 ⊢
    have tup1 : ∀ p ∈ L1, IsT P w h1 p.2 p.1 := fun p hp => by
      rcases List.mem_cons.mp (pm.mem_iff.mp hp) with e | hp
      · rw [e]; exact isT_same hx ho hd sb
      · exact isT_same (R.tup p hp) ho hd sb
    have ld1 : w.params.followText "set-order" = true ∨ t1.led = true := by rw [q5]; exact R.led
    rw [List.length_map] at q9
    by_cases hf : t1.tooFull = true
    · first
        | (refine wpAny_bind ?_; refine wp_if_pos (by simp [hf]) ?_)
        | (refine wp_if_pos (by simp [hf]) ?_; refine wpAny_bind ?_)
      have hfull : (L.length + 1) * 5 ≥ t.mask * 3 := by
        have h := hf
        unfold SetTable.tooFull at h
        rw [decide_eq_true_eq, q9, q4] at h
        exact h
      rw [hsl]
      obtain ⟨M, m1, m2, m3, m4⟩ := next_mask R.tab.mok hroom hfull hfew
      have hmk : 7 ≤ t.mask := by rcases R.tab.mok with e | e | e | e | e | e <;> omega
      refine lay (s := { s with heap := h1 }) ho1 ⟨hex.1, hex.2.1, hex.2.2⟩ rfl hin q3 (by rw [hlen, q4]; omega) nd1 tup1 hp1 ld1 m1 m2 m3 (by rw [hlen]; exact m4) ?_
      intro h2 L2 es2 ep2 t2 sb2 R2 pm2
      exact wpAny_pure (hQ true h2 L2 es2 ep2 t2 (sb.trans sb2) R2 (fun z => absurd z hm) fun _ => pm2.trans pm)
    · first
        | refine wp_if_neg (by simp [hf]) ?_
        | (refine wpAny_bind ?_; refine wp_if_neg (by simp [hf]) ?_; refine wpAny_pure ?_)
      refine wpAny_pure (hQ true h1 L1 es1 (ep + 1) t1 sb ⟨⟨_, ho1, ⟨hex.1, hex.2.1, hex.2.2⟩, rfl⟩, hin, q3, nd1, tup1, hp1, ld1, ?_⟩ (fun z => absurd z hm) fun _ => pm)
      have h := hf
      unfold SetTable.tooFull at h
      rw [decide_eq_true_eq, q9] at h
      rw [hlen]
      omega
end
end BS
end
section
set_option Elab.async false
set_option linter.all false
set_option maxRecDepth 100000
set_option maxHeartbeats 4000000
namespace BS
open PySem PySem.Spec L2 PyProof.Rows
section
variable {P : Program} {w : World} {A : Around} {E : Value → Shared → Prop} {s : Shared}
theorem SetB.keep {h h' : Heap} {a : Addr} {L : List (Addr × List Int)} {es : Array (Int × Value)} {ep : Nat} {t : SetTable} (R : SetB P w h a L es ep t) (ha : ∀ o, h.get? a = some o → h'.get? a = some o) (ht : ∀ p ∈ L, IsT P w h' p.2 p.1) : SetB P w h' a L es ep t := by
  obtain ⟨o, ho, r⟩ := R.ob
  exact { R with ob := ⟨o, ha o ho, r⟩, tup := ht }
theorem fresh {h : Heap} {a : Addr} (ho : h.get? a = some { cls := .type "set", dict := none, data := .set #[] 0 (.fresh 0 0 (!w.params.followText "set-order")) }) : SetB P w h a [] #[] 0 (.fresh 0 0 (!w.params.followText "set-order")) where
  ob := ⟨_, ho, ⟨rfl, rfl, rfl⟩, rfl⟩
  rows := rfl
  tab := ⟨List.Pairwise.nil, rfl, rfl, .inl rfl, (fun x hx => nomatch hx), fun i h j hi => (by simp at hi)⟩
  nd := List.nodup_nil
  tup := fun p hp => nomatch hp
  plain := rfl
  led := by
    show _ ∨ (!w.params.followText "set-order") = true
    cases w.params.followText "set-order"
    · exact .inr rfl
    · exact .inl rfl
  room := show 0 * 5 < 7 * 3 by decide
theorem update {I : Addr} {fp wr : List Addr} {G : Array GenState → Array GenState → Prop} {n : Nat} {Pv : Nat → Value → Prop} {St : Nat → Shared → Prop} {R : Result → Shared → Prop}
    (W : WalksS P w A.in1 I fp wr G n Pv St) (S : Addr) (hSf : S ∉ fp) (ks : List (Addr × List Int)) (hn : n = ks.length) (hfew : ks.length < 4000) (hval : ∀ i v, Pv i v → ∃ p, ks[i]? = some p ∧ v = .ref p.1)
    (h0 : Heap) (hk : ∀ p ∈ ks, IsT P w h0 p.2 p.1) (hS0 : h0.get? S = none) (hw0 : ∀ b ∈ wr, h0.get? b = none) (hu : A.in1.units < cLine) :
    ∀ (k i : Nat) (s : Shared), n - i = k → i ≤ n → St i s → (∀ b o, h0.get? b = some o → s.heap.get? b = some o) → (∃ L es ep t, SetB P w s.heap S L es ep t ∧ Got ks i L) →
      (∀ s' L es ep t, Moved (S :: wr) G s s' → SetB P w s'.heap S L es ep t → Got ks n L → (∀ b o, h0.get? b = some o → s'.heap.get? b = some o) → R (.ok (.ret .none)) s') →
      codeAny (model P w) A (.builtin "set.update.loop" ⟨[.ref S, .ref I], []⟩) R s := by
  have hSw : S ∉ wr := fun h => hSf (W.sub _ h)
  have hsub : ∀ b ∈ wr, b ∈ S :: wr := fun b hb => List.mem_cons_of_mem _ hb
  have keepM : ∀ {s s' : Shared}, Moved wr G s s' → (∀ b o, h0.get? b = some o → s.heap.get? b = some o) → ∀ b o, h0.get? b = some o → s'.heap.get? b = some o := fun hm hkp b o e =>
    hm.heap b o (fun hb => by rw [hw0 b hb] at e; cases e) (hkp b o e)
  intro k
  induction k with
  | zero =>
    intro i s hk' hi hst hkp ⟨L, es, ep, t, hS, g⟩ hR
    have hin : i = n := by omega
    subst hin
    refine codeAny_builtin F.entry_set_update_loop ?_
    rw [Around.under_plainId F.plain_set_update_loop _]
    show wpAny _ A.in1 (pyNext (.ref I) >>= _) _ _ s
    refine wpAny_bind (W.done s _ _ hst fun s' hm => ?_)
    show wpAny _ A.in1 (ret Value.none) _ _ s'
    have hkp' := keepM hm hkp
    exact wpAny_pure (hR s' L es ep t (hm.mono hsub) (hS.keep (fun o e => hm.heap S o hSw e) fun p hp => isT_keep (hk p (List.mem_of_mem_take (g.sub p hp))) hkp') g hkp')
  | succ k ih =>
    intro i s hk' hi hst hkp ⟨L, es, ep, t, hS, g⟩ hR
    have hlt : i < n := by omega
    refine codeAny_builtin F.entry_set_update_loop ?_
    rw [Around.under_plainId F.plain_set_update_loop _]
    show wpAny _ A.in1 (pyNext (.ref I) >>= _) _ _ s
    refine wpAny_bind (W.item i s _ _ hlt hst fun v s' hP hst' hm => ?_)
    obtain ⟨p, hp, rfl⟩ := hval i v hP
    have hkp' := keepM hm hkp
    have hS' : SetB P w s'.heap S L es ep t := hS.keep (fun o e => hm.heap S o hSw e) fun q hq => isT_keep (hk q (List.mem_of_mem_take (g.sub q hq))) hkp'
    have hx : IsT P w s'.heap p.2 p.1 := isT_keep (hk p (List.mem_of_getElem? hp)) hkp'
    show wpAny _ A.in1 (holding [Value.ref p.1] (setAdd S (.ref p.1)) >>= _) _ _ s'
    refine wpAny_bind (wpAny_holding ?_)
    unfold setAdd
    refine wpAny_holding ?_
    refine wpAny_bind (wpAny_pyHash_tuple hu hx ?_)
    refine add (s := { s' with toks := s'.toks + (p.2.length + 1) }) hS' hx hu (by have := g.len; omega) fun b h' L' es' ep' t' hsb hS2 c1 c2 => ?_
    have g' : Got ks (i + 1) L' := by
      rcases Classical.em (p.2 ∈ L.map (·.2)) with c | c
      · rw [c1 c]; exact g.same hp c
      · exact g.more hp (c2 c)
    have hkp2 : ∀ b o, h0.get? b = some o → h'.get? b = some o := fun b o e => (hsb.2 b (fun z => by rw [z, hS0] at e; cases e)).trans (hkp' b o e)
    refine wpAny_pure ⟨plainId_quiet F.plain_set_update_loop _, ih (i + 1) _ (by omega) hlt (W.frame _ s' _ _ hst' (Nat.le_add_right _ _) fun b hb o e => ?_) hkp2 ⟨L', es', ep', t', hS2, g'⟩ fun s'' L2 es2 ep2 t2 hm'' hS'' g'' hkp'' => ?_⟩
    · rw [hsb.2 b (fun h : b = S => hSf (by rw [← h]; exact hb))]; exact e
    · refine hR s'' L2 es2 ep2 t2 (Moved.trans W.gtrans ((hm.mono hsub).then_heap (Nat.le_add_right _ _) fun b o hb e => ?_) hm'') hS'' g'' hkp''
      rw [hsb.2 b (fun h : b = S => hb (by rw [h]; exact List.mem_cons_self))]; exact e
end
end BS
end
section
set_option Elab.async false
set_option linter.all false
set_option maxRecDepth 100000
set_option maxHeartbeats 4000000
namespace BS
open PySem PySem.Spec L2 PyProof.Rows
section
variable {P : Program} {w : World} {A : Around} {E : Value → Shared → Prop} {s : Shared}
/-- set(t), t a tuple of tuples of ints -/
theorem call_set_tuple {l : Addr} {items : Array Value} (ks : List (Addr × List Int)) {Q : Value → Shared → Prop} (hh : A.handled = none) (hl : s.heap.IsTuple l items) (hit : items.toList = ks.map fun p => Value.ref p.1)
    (hk : ∀ p ∈ ks, IsT P w s.heap p.2 p.1) (hfew : ks.length < 4000) (hu : A.units + 3 < cLine)
    (h : ∀ (h' : Heap) (tk : Nat) L es ep t, SetB P w h' s.heap.objs.size L es ep t → Got ks ks.length L → (∀ b o, s.heap.get? b = some o → h'.get? b = some o) → Q (.ref s.heap.objs.size) { s with heap := h', toks := tk }) :
    wpAny (model P w) A (call (.type "set") [.ref l]) Q E s := by
  have hn : items.size = ks.length := by simpa using congrArg List.length hit
  generalize hob : ({ cls := .type "set", dict := none, data := .set #[] 0 (.fresh 0 0 (!w.params.followText "set-order")) } : Obj) = ob
  obtain ⟨c, tl, hmro⟩ := F.called_set.mro
  have f1 := F.called_set.made
  have f2 := F.called_set.sub
  have f3 := F.called_set.notType
  have f4 := F.called_set.canCreate
  have f5 := F.typeCall_set_1 (.ref l)
  have f6 := F.called_set.init.lookup
  have f7 := F.called_set.init.bind (.ref s.heap.objs.size)
  have hat : (s.heap.push ob).get? s.heap.objs.size = some ob := Heap.get?_push_size _ (by rw [← hob]; rfl)
  refine wpAny_call (codeAny_of_tree ?_)
  show wpAny _ _ (callAny (.type "set") _) _ _ _
  refine wpAny_pure ⟨Code.quiet_builtin _ (by decide +kernel), codeAny_builtin F.entry_type_call ?_⟩
  rw [Around.under_plain (weight_type_call_type "set" [.ref l] []) rfl]
  repeat (any_goals (first | assumption | wp_step))
  refine codeAny_mono (code_set_led1 (.ref l) (E := E) (Q₁ := fun obj s₁ => obj = .ref s.heap.objs.size ∧ s₁ = { s with heap := s.heap.push ob }) ⟨rfl, by rw [← hob]⟩) fun r s₁ hr => ?_
  match r, hr with
  | .error _, hr => exact hr
  | .ok (.ret obj), hr =>
    obtain ⟨rfl, rfl⟩ := hr
    have hT : Shared.TypeIs { s with heap := s.heap.push ob } (.ref s.heap.objs.size) "set" := ⟨_, hat, by rw [← hob]⟩
    repeat (any_goals (first | assumption | wp_step))
    refine codeAny_mono (codeAny_call_builtin (R := wants (fun r s₂ => r = .none ∧ ∃ h' tk L es ep t, s₂ = { s with heap := h', toks := tk } ∧ SetB P w h' s.heap.objs.size L es ep t ∧ Got ks ks.length L ∧
        (∀ b o, s.heap.get? b = some o → h'.get? b = some o)) E) F.called_set.init.plain F.entry_set_init (check_set_init_1 hT ?_)) fun r₂ s₂ hr₂ => ?_
    · subst hob
      obtain ⟨⟨oc, od, oda, osl⟩, g1, g2, n, g3⟩ := hl
      cases g2
      cases g3
      have g4 := F.sub_tuple_set
      have g5 := F.sub_tuple_frozenset
      have g6 : (Value.type "tuple" == Value.type "dict") = false := by decide
      have g7 : (s.heap.push { cls := .type "set", dict := none, data := .set #[] 0 (.fresh 0 0 (!w.params.followText "set-order")) }).get? l = some { cls := .type "tuple", dict := od, data := .seq items n, slots := osl } := Heap.get?_push_of_some _ g1
      have g8 : (s.heap.push { cls := .type "set", dict := none, data := .set #[] 0 (.fresh 0 0 (!w.params.followText "set-order")) }).IsTuple l items := ⟨_, g7, rfl, n, rfl⟩
      have hlt : l < s.heap.objs.size := Heap.lt_size g1
      have hsz : (s.heap.push { cls := .type "set", dict := none, data := .set #[] 0 (.fresh 0 0 (!w.params.followText "set-order")) }).objs.size = s.heap.objs.size + 1 := Heap.size_push ..
      have gone : ∀ b, s.heap.objs.size ≤ b → s.heap.get? b = none := fun b hb => by
        cases q : s.heap.get? b with
        | none => rfl
        | some o => exact absurd (Heap.lt_size q) (Nat.not_lt.mpr hb)
      unfold Builtin.«set.__init__» noKeywords Builtin.Frozenset.updateFrom
      generalize hPI : pyIter = PI
      wp_walk
      subst hPI
      refine wpAny_pyIter_tuple g8 ?_
      refine wpAny_bind (wpAny_runValue ?_)
      have k1 : A.in1.in1.in1.handled = none := by simp [hh]
      have k2 : l ≠ (s.heap.push { cls := .type "set", dict := none, data := .set #[] 0 (.fresh 0 0 (!w.params.followText "set-order")) }).objs.size := by rw [hsz]; exact Nat.ne_of_lt (Nat.lt_succ_of_lt hlt)
      have k3 : s.heap.objs.size ∉ [(s.heap.push { cls := .type "set", dict := none, data := .set #[] 0 (.fresh 0 0 (!w.params.followText "set-order")) }).objs.size, l] := by
        rw [hsz]
        simp only [List.mem_cons, List.not_mem_nil, or_false, not_or]
        exact ⟨Nat.ne_of_lt (Nat.lt_succ_self _), Nat.ne_of_gt hlt⟩
      refine update ((Walks.tuple k1 _ l k2 items).toS) s.heap.objs.size k3 ks hn hfew (fun i v hv => ?_) s.heap hk (gone _ (Nat.le_refl _)) (fun b hb => gone b ?_) hu (items.size - 0) 0 _ (by omega) (Nat.zero_le _)
        ⟨⟨_, Heap.get?_push_size _ rfl, rfl, rfl⟩, g8.push _⟩ (fun b o e => Heap.get?_push_of_some _ (Heap.get?_push_of_some _ e)) ⟨[], #[], 0, _, fresh (Heap.get?_push_of_some _ hat), Got.zero ks⟩ fun s' L es ep t hm hS' g' hkp => ?_
      · have q : items.toList[i]? = some v := by rw [Array.getElem?_toList]; exact hv
        rw [hit, List.getElem?_map] at q
        obtain ⟨p, e1, e2⟩ := Option.map_eq_some_iff.mp q
        exact ⟨p, e1, e2.symm⟩
      · rw [List.mem_singleton.mp hb, hsz]
        exact Nat.le_succ _
      · rw [hn] at g'
        obtain ⟨h', _, _, tk', _⟩ := s'
        cases hm.gens
        cases hm.drawn
        cases hm.os
        show wpAny _ _ _ _ _ _
        refine wpAny_pure ?_
        show wpAny _ _ (ret Value.none) _ _ _
        exact wpAny_pure ⟨rfl, h', tk', L, es, ep, t, rfl, hS', g', hkp⟩
    · match r₂, hr₂ with
      | .error _, hr₂ => exact hr₂
      | .ok (.ret _), hr₂ =>
        obtain ⟨rfl, h', tk, L, es, ep, t, rfl, hS', g', hk'⟩ := hr₂
        repeat (any_goals (first | assumption | wp_step))
        exact h _ _ _ _ _ _ hS' g' hk'
/-- set(t), t a list of tuples of ints -/
theorem call_set_list {l : Addr} {items : Array Value} (ks : List (Addr × List Int)) {Q : Value → Shared → Prop} (hh : A.handled = none) (hl : s.heap.IsList l items) (hit : items.toList = ks.map fun p => Value.ref p.1)
    (hk : ∀ p ∈ ks, IsT P w s.heap p.2 p.1) (hfew : ks.length < 4000) (hu : A.units + 3 < cLine)
    (h : ∀ (h' : Heap) (tk : Nat) L es ep t, SetB P w h' s.heap.objs.size L es ep t → Got ks ks.length L → (∀ b o, s.heap.get? b = some o → h'.get? b = some o) → Q (.ref s.heap.objs.size) { s with heap := h', toks := tk }) :
    wpAny (model P w) A (call (.type "set") [.ref l]) Q E s := by
  have hn : items.size = ks.length := by simpa using congrArg List.length hit
  generalize hob : ({ cls := .type "set", dict := none, data := .set #[] 0 (.fresh 0 0 (!w.params.followText "set-order")) } : Obj) = ob
  obtain ⟨c, tl, hmro⟩ := F.called_set.mro
  have f1 := F.called_set.made
  have f2 := F.called_set.sub
  have f3 := F.called_set.notType
  have f4 := F.called_set.canCreate
  have f5 := F.typeCall_set_1 (.ref l)
  have f6 := F.called_set.init.lookup
  have f7 := F.called_set.init.bind (.ref s.heap.objs.size)
  have hat : (s.heap.push ob).get? s.heap.objs.size = some ob := Heap.get?_push_size _ (by rw [← hob]; rfl)
  refine wpAny_call (codeAny_of_tree ?_)
  show wpAny _ _ (callAny (.type "set") _) _ _ _
  refine wpAny_pure ⟨Code.quiet_builtin _ (by decide +kernel), codeAny_builtin F.entry_type_call ?_⟩
  rw [Around.under_plain (weight_type_call_type "set" [.ref l] []) rfl]
  repeat (any_goals (first | assumption | wp_step))
  refine codeAny_mono (code_set_led1 (.ref l) (E := E) (Q₁ := fun obj s₁ => obj = .ref s.heap.objs.size ∧ s₁ = { s with heap := s.heap.push ob }) ⟨rfl, by rw [← hob]⟩) fun r s₁ hr => ?_
  match r, hr with
  | .error _, hr => exact hr
  | .ok (.ret obj), hr =>
    obtain ⟨rfl, rfl⟩ := hr
    have hT : Shared.TypeIs { s with heap := s.heap.push ob } (.ref s.heap.objs.size) "set" := ⟨_, hat, by rw [← hob]⟩
    repeat (any_goals (first | assumption | wp_step))
    refine codeAny_mono (codeAny_call_builtin (R := wants (fun r s₂ => r = .none ∧ ∃ h' tk L es ep t, s₂ = { s with heap := h', toks := tk } ∧ SetB P w h' s.heap.objs.size L es ep t ∧ Got ks ks.length L ∧
        (∀ b o, s.heap.get? b = some o → h'.get? b = some o)) E) F.called_set.init.plain F.entry_set_init (check_set_init_1 hT ?_)) fun r₂ s₂ hr₂ => ?_
    · subst hob
      obtain ⟨⟨oc, od, oda, osl⟩, g1, g2, n, g3⟩ := hl
      cases g2
      cases g3
      have g4 := F.sub_list_set
      have g5 := F.sub_list_frozenset
      have g6 : (Value.type "list" == Value.type "dict") = false := by decide
      have g7 : (s.heap.push { cls := .type "set", dict := none, data := .set #[] 0 (.fresh 0 0 (!w.params.followText "set-order")) }).get? l = some { cls := .type "list", dict := od, data := .seq items n, slots := osl } := Heap.get?_push_of_some _ g1
      have g8 : (s.heap.push { cls := .type "set", dict := none, data := .set #[] 0 (.fresh 0 0 (!w.params.followText "set-order")) }).IsList l items := ⟨_, g7, rfl, n, rfl⟩
      have hlt : l < s.heap.objs.size := Heap.lt_size g1
      have hsz : (s.heap.push { cls := .type "set", dict := none, data := .set #[] 0 (.fresh 0 0 (!w.params.followText "set-order")) }).objs.size = s.heap.objs.size + 1 := Heap.size_push ..
      have gone : ∀ b, s.heap.objs.size ≤ b → s.heap.get? b = none := fun b hb => by
        cases q : s.heap.get? b with
        | none => rfl
        | some o => exact absurd (Heap.lt_size q) (Nat.not_lt.mpr hb)
      unfold Builtin.«set.__init__» noKeywords Builtin.Frozenset.updateFrom
      generalize hPI : pyIter = PI
      wp_walk
      subst hPI
      refine wpAny_pyIter_list g8 ?_
      refine wpAny_bind (wpAny_runValue ?_)
      have k1 : A.in1.in1.in1.handled = none := by simp [hh]
      have k2 : l ≠ (s.heap.push { cls := .type "set", dict := none, data := .set #[] 0 (.fresh 0 0 (!w.params.followText "set-order")) }).objs.size := by rw [hsz]; exact Nat.ne_of_lt (Nat.lt_succ_of_lt hlt)
      have k3 : s.heap.objs.size ∉ [(s.heap.push { cls := .type "set", dict := none, data := .set #[] 0 (.fresh 0 0 (!w.params.followText "set-order")) }).objs.size, l] := by
        rw [hsz]
        simp only [List.mem_cons, List.not_mem_nil, or_false, not_or]
        exact ⟨Nat.ne_of_lt (Nat.lt_succ_self _), Nat.ne_of_gt hlt⟩
      refine update ((Walks.list k1 _ l k2 items).toS) s.heap.objs.size k3 ks hn hfew (fun i v hv => ?_) s.heap hk (gone _ (Nat.le_refl _)) (fun b hb => gone b ?_) hu (items.size - 0) 0 _ (by omega) (Nat.zero_le _)
        ⟨⟨_, Heap.get?_push_size _ rfl, rfl, rfl⟩, g8.push _⟩ (fun b o e => Heap.get?_push_of_some _ (Heap.get?_push_of_some _ e)) ⟨[], #[], 0, _, fresh (Heap.get?_push_of_some _ hat), Got.zero ks⟩ fun s' L es ep t hm hS' g' hkp => ?_
      · have q : items.toList[i]? = some v := by rw [Array.getElem?_toList]; exact hv
        rw [hit, List.getElem?_map] at q
        obtain ⟨p, e1, e2⟩ := Option.map_eq_some_iff.mp q
        exact ⟨p, e1, e2.symm⟩
      · rw [List.mem_singleton.mp hb, hsz]
        exact Nat.le_succ _
      · rw [hn] at g'
        obtain ⟨h', _, _, tk', _⟩ := s'
        cases hm.gens
        cases hm.drawn
        cases hm.os
        show wpAny _ _ _ _ _ _
        refine wpAny_pure ?_
        show wpAny _ _ (ret Value.none) _ _ _
        exact wpAny_pure ⟨rfl, h', tk', L, es, ep, t, rfl, hS', g', hkp⟩
    · match r₂, hr₂ with
      | .error _, hr₂ => exact hr₂
      | .ok (.ret _), hr₂ =>
        obtain ⟨rfl, h', tk, L, es, ep, t, rfl, hS', g', hk'⟩ := hr₂
        repeat (any_goals (first | assumption | wp_step))
        exact h _ _ _ _ _ _ hS' g' hk'
end
end BS
end
section
set_option Elab.async false
set_option linter.all false
set_option maxRecDepth 100000
set_option maxHeartbeats 4000000
namespace BS
open PySem PySem.W PySem.Calls PyProof.Rows PySem.SeqAt
section
variable {prog : Program} {w : World} {A : Around} {E : Value → Shared → Prop} {s : Shared}
theorem call_tuple_lt {Q : Value → Shared → Prop} {l b : Addr} {items items2 : Array Value} {e r : Nat → Bool} (hl : s.heap.IsTuple l items) (hb : s.heap.IsTuple b items2)
    (he : ∀ j (h1 : j < items.size) (h2 : j < items2.size), EqAt A.in1 s items[j] items2[j] (e j)) (hr : ∀ j (h1 : j < items.size) (h2 : j < items2.size), e j = false → RcLt A.in1 s items[j] items2[j] (r j))
    (h : Q (.bool (firstLt e r (decide (items.size < items2.size)) (List.range (min items.size items2.size)))) s) : wpAny (model prog w) A (call (.builtin "tuple.__lt__") [.ref l, .ref b]) Q E s := by
  obtain ⟨⟨cls, dd, data, sl⟩, ho, hc, n, hd⟩ := id hl
  obtain ⟨⟨cls2, dd2, data2, sl2⟩, ho2, hc2, n2, hd2⟩ := id hb
  simp only at hc hd hc2 hd2
  subst hc hd hc2 hd2
  exact call_meets F.slot_tuple_lt ⟨_, ho, rfl⟩ F.entry_tuple_lt (F.args_tuple_lt_2 _ _) (tuple_ltAt l b items items2 n n2 dd dd2 sl sl2 e r) ⟨ho, ho2, he, hr, h⟩
theorem oneLt_tuples {xs ys : List PyData} {a b : Value} {as bs : List Addr} {Q : Bool → Shared → Prop} (ra : Reads s.heap a (.tuple xs) as) (rb : Reads s.heap b (.tuple ys) bs) (h : alike (.tuple xs) (.tuple ys) = true)
    (hu : A.units + min (PyData.tuple xs).depth (PyData.tuple ys).depth < cLine) (hq : Q (dataLt (.tuple xs) (.tuple ys)) s) : wpAny (model prog w) A (oneLt' true a b) Q E s := by
  have hal : alikeAll xs ys = true := by simpa [alike] using h
  cases ra with
  | @tuple l o vs n _ as₁ h1 h2 h3 h4 =>
    cases rb with
    | @tuple l' o' vs' n' _ bs₁ k1 k2 k3 k4 =>
      have n1 : vs.size = xs.length := by simpa using ReadsAll.length _ _ _ h4
      have n2 : vs'.size = ys.length := by simpa using ReadsAll.length _ _ _ k4
      rw [dataLt_tuple, ← firstLt_toks xs ys hal, ← n1, ← n2] at hq
      rw [oneLt'_eq]
      simp only [if_true]
      refine wpAny_bind (wpAny_cRoomFor (room_here hu) ?_)
      refine wpAny_bind (wpAny_callSpecialIfBound?_slot (T := "tuple") ⟨_, h1, h2⟩ F.slot_tuple_lt (call_tuple_lt (e := pairEq xs ys) (r := fun j => dataLt (xs.getD j .none) (ys.getD j .none)) ⟨_, h1, h2, _, h3⟩ ⟨_, k1, k2, _, k3⟩ (fun j j1 j2 => ?_) (fun j j1 j2 hj => ?_) ?_))
      · have := eqAt_alikeAll xs ys A.in1 s vs.toList vs'.toList _ _ h4 k4 hal (room_in hu) j (by simpa using j1) (by simpa using j2)
        simpa using this
      · have := rcLt_alikeAll xs ys A.in1 s vs.toList vs'.toList _ _ h4 k4 hal (room_in hu) j (by simpa using j1) (by simpa using j2) hj
        simpa using this
      · exact wpAny_truthy_bool hq
def fullT : PyData → Bool
  | .tuple [] => false
  | _ => true
theorem fullT_of {xs : List PyData} (h : PyData.tuple xs ≠ .tuple []) : fullT (.tuple xs) = true := by
  cases xs with
  | nil => exact absurd rfl h
  | cons x r => rfl
/-- the first item of each of some tuples, if it has one -/
theorem firsts_tups : ∀ (vs : List Value) (ds : List PyData) {Q : List (Option Value) → Shared → Prop}, EachIs (fun v d => ∃ as, Reads s.heap v d as) vs ds → (∀ d ∈ ds, ∃ xs, d = .tuple xs) → (∀ fs : List (Option Value), EachIs (fun f d => f.isSome = fullT d) fs ds → Q fs s) → wpAny (model prog w) A (vs.mapM firstOfTuple') Q E s
  | [], _, _, .nil, _, h => by rw [List.mapM_nil]; exact wpAny_pure (h [] .nil)
  | v :: vs, d :: ds, Q, .cons ⟨as, r⟩ t, ht, h => by
    obtain ⟨xs, rfl⟩ := ht d List.mem_cons_self
    rw [List.mapM_cons]
    refine wpAny_bind ?_
    rw [kas_first_eq]
    refine wpAny_bind ((looks_reads r).here ?_)
    rw [if_neg (by first | decide | simp [dataType])]
    cases r with
    | @tuple a o ys n _ _ h1 h2 h3 h4 =>
      refine wpAny_bind (listItems_at h1 h3 (wpAny_pure ?_))
      refine wpAny_bind (firsts_tups vs ds t (fun d hd => ht d (List.mem_cons_of_mem _ hd)) fun fs hfs => wpAny_pure (h _ (.cons ?_ hfs)))
      have n1 : ys.size = xs.length := by simpa using ReadsAll.length _ _ _ h4
      cases xs with
      | nil =>
        have : ys[0]? = none := by simp at n1; simp [n1]
        rw [this]
        rfl
      | cons x r =>
        have : 0 < ys.size := by rw [n1]; simp
        rw [Array.getElem?_eq_getElem this]
        rfl
theorem each_at {α β : Type} {R : α → β → Prop} : ∀ {as : List α} {bs : List β}, EachIs R as bs → ∀ b ∈ bs, ∃ a ∈ as, R a b
  | _, _, .nil, b, h => nomatch h
  | _, _, .cons h t, b, hb => by
    rcases List.mem_cons.mp hb with rfl | hb
    · exact ⟨_, List.mem_cons_self, h⟩
    · obtain ⟨a, ha, r⟩ := each_at t b hb
      exact ⟨a, List.mem_cons_of_mem _ ha, r⟩
theorem sortsAt_tuples {vs : List Value} {ds : List PyData} (e : EachIs (fun v d => ∃ as, Reads s.heap v d as) vs ds) (hal : AllAlike ds) (ht : ∀ d ∈ ds, ∃ xs, d = .tuple xs) (hu : ∀ d, d ∈ ds → A.units + d.depth < cLine) : SortsAt prog w A s (dataKind s.heap ds) vs := by
  have room : ∀ {d d' : PyData}, d ∈ ds → A.units + min d.depth d'.depth < cLine := fun {d d'} hd => Nat.lt_of_le_of_lt (Nat.add_le_add_left (Nat.min_le_left _ _) _) (hu d hd)
  by_cases hne : ∀ d ∈ ds, ∃ x r, d = .tuple (x :: r)
  · exact SortsAt.data e hal (.inl hne) hu
  have gen : H.LtAt prog w A s (dataKind s.heap ds) general' := by
    intro E x y a b Q ha hb hq
    obtain ⟨d, as, hd, ra, rfl⟩ := dataKind_inv ha
    obtain ⟨d', as', hd', rb, rfl⟩ := dataKind_inv hb
    obtain ⟨xs, rfl⟩ := ht d hd
    exact oneLt_alike (f := false) (fun h => nomatch h) ra rb (hal _ hd d' hd') (fun h => nomatch h) (room hd) hq
  have one : H.LtAt prog w A s (dataKind s.heap ds) oneType' := by
    intro E x y a b Q ha hb hq
    obtain ⟨d, as, hd, ra, rfl⟩ := dataKind_inv ha
    obtain ⟨d', as', hd', rb, rfl⟩ := dataKind_inv hb
    obtain ⟨xs, rfl⟩ := ht d hd
    obtain ⟨ys, rfl⟩ := ht d' hd'
    rw [keyLt'_oneType]
    exact oneLt_tuples ra rb (hal _ hd _ hd') (room hd) hq
  refine ⟨fun v hv => ?_, ?_⟩
  · obtain ⟨d, hd, as, r⟩ := e.left v hv
    exact ⟨_, dataKind_some hal hd r⟩
  · obtain ⟨d1, hd1, hd2⟩ : ∃ d ∈ ds, d = .tuple [] := by
      refine Classical.byContradiction fun hno => hne fun d hd => ?_
      obtain ⟨xs, rfl⟩ := ht d hd
      cases xs with
      | nil => exact absurd ⟨_, hd, rfl⟩ hno
      | cons x r => exact ⟨x, r, rfl⟩
    cases ds with
    | nil => cases hd1
    | cons d₀ ds₀ =>
      cases vs with
      | nil => cases e
      | cons v₀ vs₀ =>
        have notall : ∀ fs : List (Option Value), EachIs (fun f d => f.isSome = fullT d) fs (d₀ :: ds₀) → (fs.toArray.all fun x => x.isSome) = false := by
          intro fs hfs
          obtain ⟨f, hf, hfd⟩ := each_at hfs d1 hd1
          rw [hd2] at hfd
          simp only [List.all_toArray]
          rw [List.all_eq_false]
          exact ⟨f, hf, by rw [hfd]; simp [fullT]⟩
        by_cases h0 : d₀ = .tuple []
        · refine ⟨oneType', one, fun h2 E Q hq => ?_⟩
          rw [keyKind'_eq, List.mapM_toArray, map_eq_pure_bind]
          refine wpAny_bind (wpAny_bind (firsts_tups _ _ e ht fun fs hfs => wpAny_pure ?_))
          rw [if_neg (by rw [notall fs hfs]; simp)]
          cases hfs with
          | @cons f d fs' ds' hf hr =>
            rw [h0] at hf
            have hf' : f = none := by
              cases f with
              | none => rfl
              | some x => simp [fullT] at hf
            subst hf'
            rw [if_neg (by simp)]
            rw [oneTypeOnly'_eq, List.mapM_toArray, map_eq_pure_bind]
            refine wpAny_bind (wpAny_bind (wpAny_bind (kas_mapM (r := Value.type "tuple") _ (fun v hv Q' hq => ?_) (wpAny_pure ?_))))
            · obtain ⟨d, hd, as, r⟩ := e.left v hv
              obtain ⟨xs, rfl⟩ := ht d hd
              exact (looks_reads r).here hq
            · have hall : ((List.map (fun _ => Value.type "tuple") (v₀ :: vs₀)).toArray.all fun x => x == Value.type "tuple") = true := by
                simp only [List.all_toArray, List.all_map, List.all_eq_true]
                intro _ _
                exact beq_self_eq_true _
              have h0 : (List.map (fun _ => Value.type "tuple") (v₀ :: vs₀)).toArray[0]? = some (Value.type "tuple") := by simp
              rw [h0]
              simp only [hall, if_true]
              exact wpAny_pure (wpAny_pure hq)
        · refine ⟨general', gen, fun h2 E Q hq => ?_⟩
          rw [keyKind'_eq, List.mapM_toArray, map_eq_pure_bind]
          refine wpAny_bind (wpAny_bind (firsts_tups _ _ e ht fun fs hfs => wpAny_pure ?_))
          rw [if_neg (by rw [notall fs hfs]; simp)]
          cases hfs with
          | @cons f d fs' ds' hf hr =>
            obtain ⟨zs, rfl⟩ := ht d₀ List.mem_cons_self
            rw [fullT_of h0] at hf
            obtain ⟨x, rfl⟩ := Option.isSome_iff_exists.mp hf
            rw [if_pos (by simp)]
            exact wpAny_pure hq
def SortX (ds : List PyData) : Prop := Sortable ds ∨ ∀ d ∈ ds, ∃ xs, d = .tuple xs
theorem sortsAt_X {vs : List Value} {ds : List PyData} (e : EachIs (fun v d => ∃ as, Reads s.heap v d as) vs ds) (hal : AllAlike ds) (hk : SortX ds) (hu : ∀ d, d ∈ ds → A.units + d.depth < cLine) : SortsAt prog w A s (dataKind s.heap ds) vs := by
  rcases hk with hk | hk
  · exact SortsAt.data e hal hk hu
  · exact sortsAt_tuples e hal hk hu
variable {β : Type} {vs : List Value} {bs : List β} {enc : β → PyData} {R : Value → β → Prop}
theorem sorted_X {l : Addr} {Q : Value → Shared → Prop} (hl : s.heap.IsList l vs.toArray) (e : EachIs R vs bs) (er : EachIs (fun v b => ∃ as, Reads s.heap v (enc b) as) vs bs) (hal : AllAlike (bs.map enc)) (hk : SortX (bs.map enc)) (hL : bs.length ≤ sizeLine)
    (hu : ∀ b, b ∈ bs → A.units + 2 + (enc b).depth < cLine) (h : ∀ out, out.length = bs.length → EachIs R out (bs.mergeSort (dataLe false enc)) → Q (.ref (s.heap.objs.size + 1)) { s with heap := sortedAll s.heap vs (List.toArray out) }) :
    wpAny (model prog w) A (call (.builtin "sorted") [.ref l]) Q E s := by
  have er' : EachIs (fun v b => ∃ as, Reads (sortingHeap (copyHeap s.heap vs) (s.heap.objs.size + 1) vs) v (enc b) as) vs bs := er.mono fun _ _ ⟨as, r⟩ => ⟨as, PyProof.Rows.Reads.keeps (fun _ _ => sorting_copy_old) r⟩
  exact sorted_vals hl (sortsAt_X (s := { s with heap := sortingHeap (copyHeap s.heap vs) (s.heap.objs.size + 1) vs }) (each_map (R := fun v d => ∃ as, Reads (sortingHeap (copyHeap s.heap vs) (s.heap.objs.size + 1) vs) v d as) enc er') hal hk (bound_map hu)) (by rw [e.length]; exact hL)
    (h _ (by rw [sortVals_length false rfl]; exact e.length) (sortVals_data false e er' hal))
theorem list_sort_X {a : Addr} {n : Nat} {Q : Value → Shared → Prop} (ho : s.heap.get? a = some (seqObj "list" vs.toArray n)) (e : EachIs R vs bs) (er : EachIs (fun v b => ∃ as, Reads s.heap v (enc b) as ∧ a ∉ as) vs bs) (hal : AllAlike (bs.map enc)) (hk : SortX (bs.map enc)) (hL : bs.length ≤ sizeLine)
    (hu : ∀ b, b ∈ bs → A.units + 1 + (enc b).depth < cLine) (h : ∀ out, out.length = bs.length → EachIs R out (bs.mergeSort (dataLe false enc)) → Q .none { s with heap := sortedHeap s.heap a vs (List.toArray out) }) :
    wpAny (model prog w) A (call (.builtin "list.sort") [.ref a]) Q E s := by
  have er' : EachIs (fun v b => ∃ as, Reads (sortingHeap s.heap a vs) v (enc b) as) vs bs := each_keepBut (h' := sortingHeap s.heap a vs) (fun _ _ hb q => sortingHeap_old hb q) (fun o q => by rw [ho] at q; rw [← Option.some.inj q]) hal er
  refine wpAny_call_entry PyProof.Rows.slot_list_sort ⟨_, ho, rfl⟩ PyProof.Rows.entry_list_sort (list_sort_vals (κ := dataKind (sortingHeap s.heap a vs) (bs.map enc)) ho (sortsAt_X (s := { s with heap := sortingHeap s.heap a vs }) (each_map (R := fun v d => ∃ as, Reads (sortingHeap s.heap a vs) v d as) enc er') hal hk (bound_map hu)) (by rw [e.length]; exact hL) ⟨.none, rfl, ?_⟩) (PyProof.Rows.args_list_sort _)
  exact h _ (by rw [sortVals_length false rfl]; exact e.length) (sortVals_data false e er' hal)
end
end BS
end
section
set_option Elab.async false
set_option linter.all false
set_option maxRecDepth 100000
set_option maxHeartbeats 4000000
namespace BS
open PySem PySem.Spec L2 PyProof.Rows DL
theorem lt_lexL : ∀ x y : List Int, decide (x < y) = lexL x y
  | [], [] => by simp [lexL]
  | [], y :: ys => by simp [lexL]
  | x :: xs, [] => by simp [lexL]
  | x :: xs, y :: ys => by
    rw [lexL, ← lt_lexL xs ys]
    by_cases h : x < y <;> by_cases h2 : x = y <;> by_cases h3 : xs < ys <;> simp [List.cons_lt_cons_iff, h, h2, h3]
theorem data_lexL (x y : List Int) : PySem.W.dataLt (.tuple (x.map .int)) (.tuple (y.map .int)) = lexL x y := by
  rw [PySem.W.dataLt_tuple]
  exact (PySem.W.dataLt_ints x y).trans (lt_lexL x y)
theorem alike_ints2 : ∀ x y : List Int, PySem.W.alikeAll (x.map .int) (y.map .int) = true
  | [], _ => by simp [PySem.W.alikeAll]
  | _ :: _, [] => by simp [PySem.W.alikeAll]
  | x :: xs, y :: ys => by simp [PySem.W.alikeAll, PySem.W.alike, alike_ints2 xs ys]
abbrev encT (q : Addr × List Int) : PyData := .tuple (q.2.map .int)
theorem le_lexL (p q : Addr × List Int) : PySem.W.dataLe false encT p q = !lexL q.2 p.2 := by
  show (!PySem.W.dataLt (encT q) (encT p)) = _
  rw [data_lexL]
theorem le_tr (x y z : Addr × List Int) (h1 : PySem.W.dataLe false encT x y = true) (h2 : PySem.W.dataLe false encT y z = true) : PySem.W.dataLe false encT x z = true := by
  rw [le_lexL] at *
  simp only [Bool.not_eq_true'] at *
  rcases lexL_tri z.2 x.2 with h | h | h
  · rcases lexL_tri x.2 y.2 with k | k | k
    · rw [lexL_tr h k] at h2; cases h2
    · rw [← k, h] at h2; cases h2
    · rw [k] at h1; cases h1
  · rw [h]; exact lexL_irr _
  · exact Bool.eq_false_iff.mpr fun e => by have := lexL_tr e h; rw [lexL_irr] at this; cases this
theorem le_tot (x y : Addr × List Int) : (PySem.W.dataLe false encT x y || PySem.W.dataLe false encT y x) = true := by
  rw [le_lexL, le_lexL]
  cases h : lexL y.2 x.2 with
  | false => rfl
  | true =>
    cases k : lexL x.2 y.2 with
    | false => rfl
    | true => have := lexL_tr h k; rw [lexL_irr] at this; cases this
theorem each_of {R : Value → (Addr × List Int) → Prop} : ∀ (l : List (Addr × List Int)), (∀ q ∈ l, R (Value.ref q.1) q) → PySem.W.EachIs R (l.map fun q => Value.ref q.1) l
  | [], _ => .nil
  | q :: l, h => .cons (h q List.mem_cons_self) (each_of l fun r hr => h r (List.mem_cons_of_mem _ hr))
theorem of_each : ∀ {out : List Value} {l : List (Addr × List Int)}, PySem.W.EachIs (fun v q => v = Value.ref q.1) out l → out = l.map fun q => Value.ref q.1
  | _, _, .nil => rfl
  | _, _, .cons h r => by rw [h, of_each r]; rfl
section
variable {P : Program} {w : World} {A : Around} {E : Value → Shared → Prop} {s : Shared}
theorem sorted_B {a : Addr} {L : List (Addr × List Int)} {es : Array (Int × Value)} {ep : Nat} {t : SetTable} {Q : Value → Shared → Prop} (R : SetB P w s.heap a L es ep t) (hh : A.handled = none) (hfew : L.length < 4000) (hu : A.units + 64 < cLine)
    (hQ : ∀ s' p (out : Array Value) (c : Nat) (L' : List (Addr × List Int)), (∀ b o, s.heap.get? b = some o → s'.heap.get? b = some o) → s'.gens = s.gens → s'.os = s.os → s.heap.objs.size ≤ p →
      s'.heap.get? p = some (seqObj "list" out c) → out.toList = L'.map (fun q => Value.ref q.1) → L'.Perm L → L'.Pairwise (fun q r => lexL r.2 q.2 = false) → Q (.ref p) s') :
    wpAny (model P w) A (call (.builtin "sorted") [.ref a]) Q E s := by
  obtain ⟨o, ho, hex, hd⟩ := R.ob
  have hsz := rows_len R.rows
  refine Calls.call_function_entry kind_sorted plain_sorted entry_sorted (args_sorted1 _) ?_
  unfold Builtin.«sorted»
  refine wpAny_bind (m := checkCount "sorted" 1 1 _) (wpAny_pure ?_)
  refine wpAny_bind (collect_set (A := A.in1) hh ⟨o, ho, hex.1, hd⟩ R.fits (by unfold scanBound; omega) R.tab.ris R.led fun s1 vs k1 hz g1 o1 pm => ?_)
  have hes : es.toList.map (·.2) = L.map fun q => Value.ref q.1 := by
    rw [R.rows]
    unfold rowsOf
    rw [List.map_map]
    rfl
  rw [hes] at pm
  have one : ∀ q ∈ L, ∀ r ∈ L, q.1 = r.1 → q = r := fun q hq r hr e => by
    have a1 := R.tup q hq
    have a2 := R.tup r hr
    rw [e] at a1
    exact Prod.ext e (a1.inj a2)
  obtain ⟨L1, rfl, hs⟩ : ∃ L1 : List (Addr × List Int), vs = L1.map (fun q => Value.ref q.1) ∧ ∀ q ∈ L1, q ∈ L := by
    have : ∀ vs : List Value, (∀ v ∈ vs, ∃ q ∈ L, v = Value.ref q.1) → ∃ L1 : List (Addr × List Int), vs = L1.map (fun q => Value.ref q.1) ∧ ∀ q ∈ L1, q ∈ L := by
      intro vs
      induction vs with
      | nil => exact fun _ => ⟨[], rfl, fun q hq => nomatch hq⟩
      | cons v vs ih =>
        intro hv
        obtain ⟨q, hq, rfl⟩ := hv v List.mem_cons_self
        obtain ⟨L1, rfl, hs⟩ := ih fun u hu => hv u (List.mem_cons_of_mem _ hu)
        refine ⟨q :: L1, rfl, fun r hr => ?_⟩
        rcases List.mem_cons.mp hr with rfl | z
        · exact hq
        · exact hs r z
    exact this vs fun v hv => by
      obtain ⟨q, hq, e⟩ := List.mem_map.mp (pm.mem_iff.mp hv)
      exact ⟨q, hq, e.symm⟩
  have p1 : L1.Perm L := by
    have nL : L.Nodup := nodup_of_map R.nd
    have nref : (L.map fun q => Value.ref q.1).Nodup := List.pairwise_map.mpr (List.Pairwise.imp_of_mem (fun {q r} hq hr hne e => by
      injection e with e
      exact hne (one q hq r hr e)) nL)
    refine (List.perm_ext_iff_of_nodup (nodup_of_map (pm.nodup_iff.mpr nref)) nL).mpr fun q => ⟨hs q, fun hq => ?_⟩
    obtain ⟨r, hr, e⟩ := List.mem_map.mp (pm.mem_iff.mpr (List.mem_map.mpr ⟨q, hq, rfl⟩))
    injection e with e
    rw [← one r (hs r hr) q hq e]
    exact hr
  have hl1 := p1.length_eq
  refine wpAny_bind (wpAny_newList ?_ (by rw [sizeLine_eq, List.length_map]; omega))
  generalize hvs : (L1.map fun q => Value.ref q.1) = vs
  have hoL : (s1.heap.push (seqObj "list" vs.toArray 0)).get? s1.heap.objs.size = some (seqObj "list" vs.toArray 0) := Heap.get?_push_size _ rfl
  have rd : ∀ q ∈ L1, Reads (s1.heap.push (seqObj "list" vs.toArray 0)) (.ref q.1) (encT q) [] := fun q hq => by
    obtain ⟨ob, items, n, h1, h2, h3, h4⟩ := isT_keep (R.tup q (hs q hq)) fun b u e => Heap.get?_push_of_some _ (k1 b u e)
    exact .tuple h1 h2 h3 (readsAll_of (ints_of_items h4))
  refine wpAny_bind (wpAny_holding (BS.list_sort_X (s := { s1 with heap := s1.heap.push (seqObj "list" vs.toArray 0) }) (enc := encT) (bs := L1) (R := fun v q => v = Value.ref q.1) hoL (by rw [← hvs]; exact each_of L1 fun q _ => rfl) (by rw [← hvs]; exact each_of L1 fun q hq => ⟨[], by rw [hvs]; exact rd q hq, fun z => nomatch z⟩)
    (fun d hd d' hd' => ?_) (.inr fun d hd => ?_) (by rw [sizeLine_eq]; omega) (fun b hb => ?_) fun out a1 a2 => ?_))
  · obtain ⟨q, _, rfl⟩ := List.mem_map.mp hd
    obtain ⟨r, _, rfl⟩ := List.mem_map.mp hd'
    exact alike_ints2 q.2 r.2
  · obtain ⟨q, hq, rfl⟩ := List.mem_map.mp hd
    exact ⟨_, rfl⟩
  · have : (encT b).depth ≤ 1 := by
      simp only [encT, PyData.depth, dep_ints]
      omega
    show A.units + 1 + _ + _ < _
    omega
  · obtain ⟨c, hc⟩ := sortedHeap_at (vs := vs) (out := List.toArray out) hoL
    refine wpAny_pure ⟨_, rfl, hQ _ s1.heap.objs.size (List.toArray out) c (L1.mergeSort (PySem.W.dataLe false encT)) (fun b u e => ?_) g1 o1 hz hc (by simpa using of_each a2) ((List.mergeSort_perm _ _).trans p1) ?_⟩
    · have q := k1 b u e
      have hlt := Heap.lt_size q
      show (sortedHeap (s1.heap.push (seqObj "list" vs.toArray 0)) s1.heap.objs.size vs (List.toArray out)).get? b = some u
      rw [sortedHeap_old (Nat.ne_of_lt hlt) (by rw [size_push']; exact Nat.lt_succ_of_lt hlt)]
      exact Heap.get?_push_of_some _ q
    · refine List.Pairwise.imp (fun {q r} h => ?_) (List.pairwise_mergeSort le_tr le_tot L1)
      rw [le_lexL] at h
      simpa using h
end
end BS
end
section
set_option Elab.async false
set_option linter.all false
set_option maxRecDepth 100000
set_option maxHeartbeats 4000000
namespace BS
open PySem PySem.Spec L2 PyProof.Rows DL
def SetB0 (P : Program) (w : World) (h : Heap) (a : Addr) (L : List (Addr × List Int)) : Prop :=
  ∃ (es : Array (Int × Value)) (ep : Nat) (t : SetTable), (∃ o, h.get? a = some o ∧ o.ExactSet ∧ o.data = .set es ep t) ∧ es.toList = rowsOf P w L ∧ Tb t (L.map fun p => thash P w p.2) ∧ (L.map (·.2)).Nodup ∧ t.plain = true ∧
    (w.params.followText "set-order" = true ∨ t.led = true) ∧ L.length * 5 < t.mask * 3
def SetBO (P : Program) (w : World) (a : Addr) (L : List (Addr × List Int)) : HO := .ext fun h => SetB0 P w h a L
theorem SetB.b0 {P : Program} {w : World} {h : Heap} {a : Addr} {L : List (Addr × List Int)} {es : Array (Int × Value)} {ep : Nat} {t : SetTable} (R : SetB P w h a L es ep t) : SetB0 P w h a L := ⟨es, ep, t, R.ob, R.rows, R.tab, R.nd, R.plain, R.led, R.room⟩
theorem setBO_new {P : Program} {w : World} {H : Hp} {h : Heap} {a : Addr} {L : List (Addr × List Int)} (R : SetB0 P w h a L) : ObjOk P w H h a (SetBO P w a L) := by
  have ⟨es, ep, t, ⟨o, ho, r⟩, q⟩ := R
  refine ⟨R, ⟨o, ho⟩, fun h1 h2 p k => ?_⟩
  obtain ⟨es, ep, t, ⟨o, ho, r⟩, q⟩ := p
  exact ⟨es, ep, t, ⟨o, k o ho, r⟩, q⟩
section
variable {X : Cx}
def rSetB (K : PySem.W.Frag) (P : Program) (w : World) : List V → Hp → VK → Prop := fun xs H Q => ∃ (l : Addr) (ks : List (Addr × List Int)), xs = [V.ref l] ∧ (SqL K H l (ks.map fun p => V.ref p.1) ∨ SqT K H l (ks.map fun p => V.ref p.1)) ∧ (∀ p ∈ ks, SqT K H p.1 (p.2.map V.int)) ∧ ks.length < 4000 ∧
  ∀ a L, H a = none → (∀ p ∈ L, p ∈ ks) → (∀ p ∈ ks, p.2 ∈ L.map (·.2)) → L.length ≤ ks.length → Q (.ref a) (upd H a (SetBO P w a L))
theorem cr_setB (hc : X.calm = true) (hu : X.A.units + 64 < cLine) : CallR X (.type "set") (rSetB X.K X.prog X.w) := by
  intro pins s σ H xs us Q I r h
  obtain ⟨l, ks, rfl, hl, hk, hf, q⟩ := h
  rw [Vals.ref1 r]
  have hn : H s.heap.objs.size = none := I.hok.fresh (Nat.le_refl _)
  have fin : ∀ (h' : Heap) (tk : Nat) L es ep t, SetB X.prog X.w h' s.heap.objs.size L es ep t → Got ks ks.length L → (∀ b o, s.heap.get? b = some o → h'.get? b = some o) → ∃ x H', Inv X pins σ H' { s with heap := h', toks := tk } ∧ RelV x (.ref s.heap.objs.size) ∧ Q x H' := fun h' tk L es ep t R g k =>
    ⟨.ref s.heap.objs.size, upd H s.heap.objs.size (SetBO X.prog X.w s.heap.objs.size L), I.laid (t' := tk) k (Nat.le_refl _) (setBO_new R.b0), rfl, q _ L hn (fun p hp => List.mem_of_mem_take (g.sub p hp)) (fun p hp => g.all p (by rw [List.take_length]; exact hp)) g.len⟩
  rcases hl with hl | hl
  · obtain ⟨its, rv, pl, hz⟩ := I.list hl
    exact call_set_list (P := X.prog) (w := X.w) ks (I.ok.hd hc) pl.isList (by simpa using refs_of_vals rv) (fun p hp => I.isT (hk p hp)) hf (by omega) fin
  · obtain ⟨its, rv, ⟨ol, o1, o2, n, o3⟩, hz⟩ := I.tuple hl
    exact call_set_tuple (P := X.prog) (w := X.w) ks (I.ok.hd hc) ⟨ol, o1, o2, n, o3⟩ (by simpa using refs_of_vals rv) (fun p hp => I.isT (hk p hp)) hf (by omega) fin
def rSortedB (K : PySem.W.Frag) (P : Program) (w : World) : List V → Hp → VK → Prop := fun vs H Q => ∃ (a : Addr) (L : List (Addr × List Int)), vs = [V.ref a] ∧ H a = some (SetBO P w a L) ∧ (∀ p ∈ L, SqT K H p.1 (p.2.map V.int)) ∧ L.length < 4000 ∧
  ∀ (L' : List (Addr × List Int)) (p : Addr), L'.Perm L → (L'.map (·.2)).Nodup → L'.Pairwise (fun q r => lexL r.2 q.2 = false) → H p = none → Q (.ref p) (upd H p (.lst (L'.map fun q => V.ref q.1)))
theorem cr_sortedB (hc : X.calm = true) (hu : X.A.units + 64 < cLine) : CallR X (.builtin "sorted") (rSortedB X.K X.prog X.w) := by
  intro pins s σ H vs us Q I r h
  obtain ⟨a, L, rfl, ha, hk, hf, q⟩ := h
  obtain ⟨es, ep, t, r1, r2, r3, r4, r5, r6, r7⟩ : SetB0 X.prog X.w s.heap a L := (I.hok a _ ha).1
  rw [Vals.ref1 r]
  refine sorted_B (P := X.prog) (w := X.w) ⟨r1, r2, r3, r4, fun p hp => I.isT (hk p hp), r5, r6, r7⟩ (I.ok.hd hc) hf hu fun s' p out c L' k g o hp hg hout pm pw => ?_
  have hlen : (L'.map fun q => V.ref q.1).length ≤ sizeLine := by rw [List.length_map, sizeLine_eq, pm.length_eq]; omega
  have hn : H p = none := I.hok.fresh hp
  have hv : Vals (L'.map fun q => V.ref q.1) out.toList := by rw [hout]; exact vals_of_refs L'
  have J : Inv X pins σ (upd H p (.lst (L'.map fun q => V.ref q.1))) { s with heap := s'.heap, gens := s'.gens, drawn := s'.drawn, toks := s'.toks } :=
    I.call (ch := []) (Un.laid k hp hn) (I.hok.laid k hp ⟨hlen, out.toList, c, hv, hg⟩) (by rw [g]; exact I.bare) (fun _ z => nomatch z)
  have e : s' = { s with heap := s'.heap, gens := s'.gens, drawn := s'.drawn, toks := s'.toks } := by
    cases s'
    cases s
    cases o
    rfl
  rw [e]
  exact ⟨.ref p, _, J, rfl, q L' p pm ((pm.map (·.2)).nodup_iff.mpr r4) pw hn⟩
end
section
variable {P : Program} {w : World} {K : PySem.W.Frag} {mg : Str → Option Value} {base : Heap} {X : Cx} {N : List Str} {sc fs : Scope} {k : Nat}
/-- sorted(set(x)) -/
def qSortB (m : Bool) (te : TD) : TD := fun ε st Q => te ε st fun x s1 => match sitems s1 x with
  | some l => (match tints l with
    | some ts => ts.length < 4000 ∧ newL m ((sortU ts).map fun a => .d (.tuple (a.map .int))) s1 Q
    | none => False)
  | none => False
theorem de_sortB {e : Expr} {te : TD} {p p2 pos pos2 : Pos} (m : Bool) (c : Cok P w K mg base X N sc fs k) (hg : glB sc "sorted" = true) (hm : mg "sorted" = none) (hg2 : glB sc "set" = true) (hm2 : mg "set" = none) (ha : DE X e te)
    (he : starEach [e] X.env = (false, eval e X.env) :: starEach [] X.env := by rfl) : DE X (.Call (.Name "sorted" p) [.Call (.Name "set" p2) [e] [] pos2] [] pos) (qSortB m te) := by
  obtain ⟨t1, p1, a1⟩ := ha
  have g := gl_of c hg
  have g2 := gl_of c hg2
  have hc := c.calm
  refine ⟨⟨_, pe_callB (cr_sortedB hc c.hu65) g.1 (by rw [c.hmg]; exact hm) bb_sorted (pa_cons (pe_callTy (cr_setB hc c.hu65) g2.1 (by rw [c.hmg]; exact hm2) bt_set (pa_cons p1 pa_nil he) g2.2.1 g2.2.2 he rfl) pa_nil rfl) g.2.1 g.2.2 rfl rfl, fun F σ H ε st Qd Q R E h kk => ?_⟩⟩
  refine a1.go (W := fun x H1 => _) R E h kk fun F1 H1 s1 v y R1 E1 rv q kk => ?_
  split at q
  rotate_left
  · exact q.elim
  rename_i l el
  split at q
  rotate_left
  · exact q.elim
  rename_i ts et
  obtain ⟨hf, q⟩ := q
  obtain ⟨pa, vs, rfl, hq, s⟩ := sitems_rv R1 rv el
  obtain ⟨ks, rfl, rfl, hF⟩ := tints_rvs s et
  rw [List.length_map] at hf
  have hk : ∀ z ∈ ks, SqT X.K H1 z.1 (z.2.map V.int) := fun z hz => SqT.of (R1.sub _ _ (hF z hz)).1
  refine ⟨pa, ks, rfl, hq, hk, hf, fun a L ha h1 h2 hlen => ?_⟩
  obtain ⟨R2, S2⟩ := R1.hide (o := SetBO X.prog X.w a L) ha
  refine ⟨a, L, rfl, upd_same, fun z hz => SqT.of (R2.sub _ _ (hF z (h1 z hz))).1, by omega, fun L' pp pm nd pw hp => ?_⟩
  have hL : ∀ z ∈ L', z ∈ ks := fun z hz => h1 z (pm.mem_iff.mp hz)
  have e : sortU (ks.map (·.2)) = L'.map (·.2) := by
    refine sortU_eq ?_ fun x => ?_
    · refine List.pairwise_map.mpr ?_
      have nd' : L'.Pairwise fun q r => q.2 ≠ r.2 := List.pairwise_map.mp nd
      refine List.Pairwise.imp (fun {y z} hyz => ?_) (List.Pairwise.and nd' pw)
      rcases lexL_tri y.2 z.2 with e | e | e
      · exact e
      · exact absurd e hyz.1
      · rw [hyz.2] at e; cases e
    · constructor
      · intro hx
        obtain ⟨z, hz, rfl⟩ := List.mem_map.mp hx
        obtain ⟨z', hz', e⟩ := List.mem_map.mp (h2 z hz)
        exact List.mem_map.mpr ⟨z', pm.mem_iff.mpr hz', e⟩
      · intro hx
        obtain ⟨z, hz, rfl⟩ := List.mem_map.mp hx
        exact List.mem_map.mpr ⟨z, hL z hz, rfl⟩
  rw [e, List.map_map] at q
  refine new_lst R2 (m := m) ?_ hp q fun F' b H' b' st' S3 R3 r3 q3 => kk F' b H' b' st' (S2.trans S3) R3 r3 q3
  have : ∀ L'' : List (Addr × List Int), (∀ z ∈ L'', z ∈ ks) → RVs X.K F1 (L''.map fun q => V.ref q.1) (L''.map ((fun a => DV.d (.tuple (a.map .int))) ∘ (·.2))) := by
    intro L''
    induction L'' with
    | nil => exact fun _ => .nil
    | cons z r ih => exact fun hz => .cons (.d (.tup (hF z (hz z List.mem_cons_self)) (rp_all z.2))) (ih fun y hy => hz y (List.mem_cons_of_mem _ hy))
  exact this L' hL
end
end BS
end
section
set_option Elab.async false
set_option linter.all false
set_option maxRecDepth 100000
set_option maxHeartbeats 4000000
namespace DL
open PySem PySem.Spec L2 PyProof.Rows
section
variable {X : Cx}
abbrev leD : PyData → PyData → Bool := PySem.W.dataLe false id
def rSortD (K : PySem.W.Frag) : List V → Hp → VK → Prop := fun vs H Q => ∃ (a : Addr) (bs : List (V × PyData)), vs = [V.ref a] ∧ SqL K H a (bs.map (·.1)) ∧ (∀ p ∈ bs, Dp K H p.1 p.2) ∧ PySem.W.AllAlike (bs.map (·.2)) ∧ BS.SortX (bs.map (·.2)) ∧ bs.length ≤ 100000 ∧ (∀ p ∈ bs, p.2.depth ≤ 16) ∧
  ∀ p : Addr, H p = none → Q (.ref p) (upd H p (.lst ((bs.mergeSort fun x y => leD x.2 y.2).map (·.1))))
theorem each_of_vals {R : Value → V × PyData → Prop} : ∀ {bs : List (V × PyData)} {us : List Value}, Vals (bs.map (·.1)) us → (∀ p ∈ bs, ∀ u, RelV p.1 u → R u p) → PySem.W.EachIs R us bs
  | [], _, h, _ => by cases h; exact .nil
  | p :: bs, _, h, k => by
    cases h with
    | cons r1 r2 => exact .cons (k p List.mem_cons_self _ r1) (each_of_vals r2 fun q hq => k q (List.mem_cons_of_mem _ hq))
theorem vals_of_each : ∀ {bs : List (V × PyData)} {us : List Value}, PySem.W.EachIs (fun u p => RelV p.1 u) us bs → Vals (bs.map (·.1)) us
  | [], _, h => by cases h; exact .nil
  | p :: bs, _, h => by
    cases h with
    | cons r1 r2 => exact .cons r1 (vals_of_each r2)
theorem cr_sortD (hc : X.calm = true) (hu : X.A.units + 64 < cLine) : CallR X (.builtin "sorted") (rSortD X.K) := by
  intro pins s σ H vs us Q I r h
  obtain ⟨a, bs, rfl, hs, hd, hal, hk, hl, hdep, q⟩ := h
  obtain ⟨its, rv, hil, _⟩ := I.list hs
  rw [Vals.ref1 r]
  have hz : bs.length ≤ sizeLine := by rw [sizeLine_eq]; omega
  refine BS.sorted_X (enc := fun p : V × PyData => p.2) (R := fun u p => RelV p.1 u) hil.isList (each_of_vals rv fun p _ u r => r) (each_of_vals rv fun p hp u r => Dp.reads I p.2 p.1 u (hd p hp) r) hal hk hz (fun p hp => by have := hdep p hp; omega) fun out ho e => ?_
  obtain ⟨ep, he'⟩ := PyProof.Rows.sortedAll_at s.heap its out.toArray
  have e2 : (bs.mergeSort (PySem.W.dataLe false fun p : V × PyData => p.2)) = bs.mergeSort fun x y => leD x.2 y.2 := rfl
  rw [e2] at e
  have hlen : ((bs.mergeSort fun x y => leD x.2 y.2).map (·.1)).length ≤ sizeLine := by rw [List.length_map, List.length_mergeSort]; exact hz
  exact ⟨.ref _, upd H (s.heap.objs.size + 1) (.lst ((bs.mergeSort fun x y => leD x.2 y.2).map (·.1))), I.laid (t' := s.toks) (fun _ _ => PyProof.Rows.sortedAll_old) (Nat.le_succ _) ⟨hlen, out, ep, vals_of_each e, he'⟩, rfl, q _ (I.hok.fresh (Nat.le_succ _))⟩
end
section
variable {P : Program} {w : World} {K : PySem.W.Frag} {mg : Str → Option Value} {base : Heap} {X : Cx} {N : List Str} {sc fs : Scope} {k : Nat}
/-- sorted(x) of a list of data -/
def qSortD (m : Bool) (te : TD) : TD := fun ε st Q => te ε st fun x s1 => match (litems s1 x).bind datas with
  | some ds => PySem.W.AllAlike ds ∧ BS.SortX ds ∧ ds.length ≤ 100000 ∧ (∀ d ∈ ds, d.depth ≤ 16) ∧ newL m ((ds.mergeSort leD).map .d) s1 Q
  | none => False
theorem de_sortD {e : Expr} {te : TD} {p pos : Pos} (m : Bool) (c : Cok P w K mg base X N sc fs k) (hg : glB sc "sorted" = true) (hm : mg "sorted" = none) (ha : DE X e te)
    (he : starEach [e] X.env = (false, eval e X.env) :: starEach [] X.env := by rfl) : DE X (.Call (.Name "sorted" p) [e] [] pos) (qSortD m te) := by
  obtain ⟨t1, p1, a1⟩ := ha
  have g := gl_of c hg
  have hc := c.calm
  refine ⟨⟨_, pe_callB (cr_sortD hc c.hu65) g.1 (by rw [c.hmg]; exact hm) bb_sorted (pa_cons p1 pa_nil he) g.2.1 g.2.2 he rfl, fun F σ H ε st Qd Q R E h kk => ?_⟩⟩
  refine a1.go (W := fun x H1 => _) R E h kk fun F1 H1 s1 v y R1 E1 rv q kk => ?_
  split at q
  rotate_left
  · exact q.elim
  rename_i ds ed
  obtain ⟨l, el, ed⟩ := Option.bind_eq_some_iff.mp ed
  obtain ⟨hal, hk, hl, hdep, q⟩ := q
  obtain ⟨pa, vs, rfl, hq, s⟩ := litems_rv R1 rv el
  have ed2 := datas_eq ed
  subst ed2
  have hall := s.all
  have hlen : vs.length = ds.length := by rw [s.length, List.length_map]
  have e1 : (vs.zip ds).map (·.1) = vs := by rw [List.map_fst_zip (by omega)]
  have e2 : (vs.zip ds).map (·.2) = ds := by rw [List.map_snd_zip (by omega)]
  have hdp : ∀ (vs : List V) (ds : List PyData), RpAll X.K F1 vs ds → ∀ z ∈ vs.zip ds, Rp X.K F1 z.1 z.2 := by
    intro vs
    induction vs with
    | nil => intro ds _ z hz; simp at hz
    | cons v vs ih =>
      intro ds h z hz
      cases h with
      | cons h1 h2 =>
        rcases List.mem_cons.mp (by simpa using hz) with rfl | hz
        · exact h1
        · exact ih _ h2 z hz
  have hz := hdp vs ds hall
  refine ⟨pa, vs.zip ds, rfl, by rw [e1]; exact hq, fun z hzm => (hz z hzm).dp (fun a o h => (R1.sub a o h).1), by rw [e2]; exact hal, by rw [e2]; exact hk, by rw [List.length_zip]; omega, fun z hzm => hdep _ (by rw [← e2]; exact List.mem_map.mpr ⟨z, hzm, rfl⟩), fun pp hp => ?_⟩
  have e3 : ((vs.zip ds).mergeSort fun x y => leD x.2 y.2).map (·.2) = ds.mergeSort leD := by
    rw [List.map_mergeSort (s := leD) (fun a _ b _ => rfl), e2]
  rw [← e3, List.map_map] at q
  refine new_lst R1 (m := m) ?_ hp q kk
  have : ∀ L : List (V × PyData), (∀ z ∈ L, z ∈ vs.zip ds) → RVs X.K F1 (L.map (·.1)) (L.map (DV.d ∘ (·.2))) := by
    intro L
    induction L with
    | nil => exact fun _ => .nil
    | cons z r ih => exact fun hzz => .cons (.d (hz z (hzz z List.mem_cons_self))) (ih fun y hy => hzz y (List.mem_cons_of_mem _ hy))
  exact this _ fun z hzz => (List.mergeSort_perm _ _).mem_iff.mp hzz
end
end DL
end
section
set_option Elab.async false
set_option linter.all false
set_option maxRecDepth 100000
set_option maxHeartbeats 4000000
namespace DL
open PySem PySem.Spec L2 PyProof.Rows
section
variable {X : Cx}
def rInX (K : PySem.W.Frag) (neg : Bool) : R2 := fun x y H Q => ∃ d ds, Dp K H x d ∧ (Dp K H y (.list ds) ∨ Dp K H y (.tuple ds)) ∧ d.canLay0 = true ∧ d.depth ≤ 32 ∧ PyData.canLayAll0 ds = true ∧ Q (.bl (if neg then !(ds.any fun z => PyData.eqv z d) else ds.any fun z => PyData.eqv z d)) H
theorem op_inX (hu : X.A.units + 64 < cLine) : OpR X (compareOp .In) (rInX X.K false) := by
  intro pins s σ H x y v u Q I rx ry h
  obtain ⟨d, ds, hd, he, sd, dd, se, q⟩ := h
  obtain ⟨as, r1⟩ := Dp.reads I d x v hd rx
  have room : X.A.units + 1 + min (PyData.depthAll ds) d.depth < cLine := by
    have := Nat.min_le_right (PyData.depthAll ds) d.depth
    omega
  rcases he with he | he
  · obtain ⟨bs, r2⟩ := Dp.reads I (.list ds) y u he ry
    exact SeqAt.in_list_reads r2 r1 se sd room ⟨.bl _, H, I, rfl, q⟩
  · obtain ⟨bs, r2⟩ := Dp.reads I (.tuple ds) y u he ry
    exact SeqAt.in_tuple_reads r2 r1 se sd room ⟨.bl _, H, I, rfl, q⟩
theorem op_notInX (hu : X.A.units + 64 < cLine) : OpR X (compareOp .NotIn) (rInX X.K true) := by
  intro pins s σ H x y v u Q I rx ry h
  obtain ⟨d, ds, hd, he, sd, dd, se, q⟩ := h
  obtain ⟨as, r1⟩ := Dp.reads I d x v hd rx
  have room : X.A.units + 1 + min (PyData.depthAll ds) d.depth < cLine := by
    have := Nat.min_le_right (PyData.depthAll ds) d.depth
    omega
  rcases he with he | he
  · obtain ⟨bs, r2⟩ := Dp.reads I (.list ds) y u he ry
    exact SeqAt.notIn_list_reads r2 r1 se sd room ⟨.bl _, H, I, rfl, q⟩
  · obtain ⟨bs, r2⟩ := Dp.reads I (.tuple ds) y u he ry
    exact SeqAt.notIn_tuple_reads r2 r1 se sd room ⟨.bl _, H, I, rfl, q⟩
def seqD : PyData → Option (List PyData)
  | .list ds => some ds
  | .tuple ds => some ds
  | _ => none
def qIn (neg : Bool) : R2D := fun x y st Q => match fz st x, (fz st y).bind seqD with
  | some d, some ds => d.canLay0 = true ∧ d.depth ≤ 32 ∧ PyData.canLayAll0 ds = true ∧ Q (.d (.bool (if neg then !(ds.any fun z => PyData.eqv z d) else ds.any fun z => PyData.eqv z d))) st
  | _, _ => False
theorem s2_in {K : PySem.W.Frag} {neg : Bool} : S2 K (rInX K neg) (qIn neg) := fun F H st v w x y Qd Q R rv rw' h kk => by
  unfold qIn at h
  split at h
  rotate_left
  · exact h.elim
  rename_i d ds e1 e2
  obtain ⟨c, e3, e4⟩ := Option.bind_eq_some_iff.mp e2
  obtain ⟨h1, h2, h3, q⟩ := h
  have hc := fz_dp R rw' e3
  refine ⟨d, ds, fz_dp R rv e1, ?_, h1, h2, h3, kk.at R (.d (.bl _)) q⟩
  cases c with
  | list l => cases e4; exact .inl hc
  | tuple l => cases e4; exact .inr hc
  | _ => cases e4
theorem op_qIn (hu : X.A.units + 64 < cLine) : ∃ r', OpR X (compareOp .In) r' ∧ S2 X.K r' (qIn false) := ⟨_, op_inX hu, s2_in⟩
theorem op_qNotIn (hu : X.A.units + 64 < cLine) : ∃ r', OpR X (compareOp .NotIn) r' ∧ S2 X.K r' (qIn true) := ⟨_, op_notInX hu, s2_in⟩
end
theorem any_int (a : List Int) (i : Int) : ((a.map PyData.int).any fun z => PyData.eqv z (.int i)) = decide (i ∈ a) := by
  rw [Bool.eq_iff_iff, List.any_map, List.any_eq_true, decide_eq_true_eq]
  constructor
  · rintro ⟨j, hj, h⟩
    simp only [Function.comp, PyData.eqv] at h
    have : j = i := by simpa using h
    rw [← this]
    exact hj
  · intro h
    exact ⟨i, h, by simp [Function.comp, PyData.eqv]⟩
theorem lay_ints (a : List Int) : PyData.canLayAll0 (a.map PyData.int) = true := by
  induction a with
  | nil => simp [PyData.canLayAll0]
  | cons x a ih => simp [PyData.canLayAll0, PyData.canLay0, ih]
theorem qIn_IT (neg : Bool) (i : Int) (a : List Int) (st : Sto) (Q : DV → Sto → Prop) : qIn neg (.d (.int i)) (.d (.tuple (a.map .int))) st Q = Q (.d (.bool (if neg then !decide (i ∈ a) else decide (i ∈ a)))) st := by
  unfold qIn
  simp only [fz, Option.bind_some, seqD, any_int, lay_ints, PyData.canLay0, PyData.depth, Nat.zero_le, true_and]
theorem qIn_IL (neg : Bool) (i : Int) (a : List Int) (st : Sto) (Q : DV → Sto → Prop) : qIn neg (.d (.int i)) (.d (.list (a.map .int))) st Q = Q (.d (.bool (if neg then !decide (i ∈ a) else decide (i ∈ a)))) st := by
  unfold qIn
  simp only [fz, Option.bind_some, seqD, any_int, lay_ints, PyData.canLay0, PyData.depth, Nat.zero_le, true_and]
theorem eqvAll_ints : ∀ a b : List Int, PyData.eqvAll (a.map .int) (b.map .int) = decide (a = b)
  | [], [] => by simp [PyData.eqvAll]
  | [], y :: ys => by simp [PyData.eqvAll]
  | x :: xs, [] => by simp [PyData.eqvAll]
  | x :: xs, y :: ys => by
    rw [List.map_cons, List.map_cons, PyData.eqvAll, eqvAll_ints xs ys, PyData.eqv]
    by_cases h1 : x = y <;> by_cases h2 : xs = ys <;> simp [h1, h2]
theorem any_tup (l : List (List Int)) (a : List Int) : ((l.map fun b => PyData.tuple (b.map .int)).any fun z => PyData.eqv z (.tuple (a.map .int))) = decide (a ∈ l) := by
  rw [Bool.eq_iff_iff, List.any_map, List.any_eq_true, decide_eq_true_eq]
  constructor
  · rintro ⟨b, hb, h⟩
    simp only [Function.comp, PyData.eqv, eqvAll_ints, decide_eq_true_eq] at h
    rw [← h]
    exact hb
  · intro h
    exact ⟨a, h, by simp only [Function.comp, PyData.eqv, eqvAll_ints, decide_true]⟩
theorem lay_tups (l : List (List Int)) : PyData.canLayAll0 (l.map fun b => PyData.tuple (b.map .int)) = true := by
  induction l with
  | nil => simp [PyData.canLayAll0]
  | cons x a ih => simp only [List.map_cons, PyData.canLayAll0, PyData.canLay0, ih, lay_ints, Bool.and_self]
theorem dep_tup (a : List Int) : (PyData.tuple (a.map .int)).depth ≤ 32 := by
  have : PyData.depthAll (a.map .int) = 0 := dep_ints a
  simp only [PyData.depth, this]
  omega
theorem qIn_TT (neg : Bool) (a : List Int) (l : List (List Int)) (st : Sto) (Q : DV → Sto → Prop) : qIn neg (.d (.tuple (a.map .int))) (.d (.tuple (l.map fun b => .tuple (b.map .int)))) st Q = Q (.d (.bool (if neg then !decide (a ∈ l) else decide (a ∈ l)))) st := by
  have h := dep_tup a
  unfold qIn
  simp only [fz, Option.bind_some, seqD, any_tup, lay_tups, lay_ints, PyData.canLay0, h, true_and]
theorem qIn_TL (neg : Bool) (a : List Int) (l : List (List Int)) (st : Sto) (Q : DV → Sto → Prop) : qIn neg (.d (.tuple (a.map .int))) (.d (.list (l.map fun b => .tuple (b.map .int)))) st Q = Q (.d (.bool (if neg then !decide (a ∈ l) else decide (a ∈ l)))) st := by
  have h := dep_tup a
  unfold qIn
  simp only [fz, Option.bind_some, seqD, any_tup, lay_tups, lay_ints, PyData.canLay0, h, true_and]
end DL
end
section
set_option Elab.async false
set_option linter.all false
set_option maxRecDepth 100000
set_option maxHeartbeats 2000000
namespace L2
open PySem PySem.Spec PyProof.Rows
end L2
namespace BS
open PySem PySem.Spec L2 PyProof.Rows DL
section
variable {X : Cx}
def keyInt : Key → Int
  | .inl i => i
  | .inr _ => 0
def IntKeys {β : Type} (kvs : List (List Key × β)) : Prop := ∀ p ∈ kvs, ∃ ns : List Int, p.1 = ns.map Sum.inl
end
end BS
namespace DL
open PySem PySem.Spec L2 PyProof.Rows
section
variable {P : Program} {w : World} {K : PySem.W.Frag} {mg : Str → Option Value} {base : Heap} {X : Cx} {N : List Str} {sc fs : Scope} {k : Nat}
def tupD (a : List Int) : DV := .d (.tuple (a.map .int))
def keyX (x : DV) : Option (List Key) := match titems x with | some ys => keyT ys | none => none
/-- {k: v}, k a tuple -/
def qDispT (tk tv : TD) : TD := fun ε st Q => tk ε st fun x s1 => tv ε s1 fun y s2 => match keyX x with
  | some q => ∀ p, s2 p = none → Q (.r p) (up s2 p (.dT [(q, y)]))
  | none => False
end
end DL
end
section
set_option Elab.async false
set_option linter.all false
set_option maxRecDepth 100000
set_option maxHeartbeats 2000000
namespace DL
open PySem PySem.Spec L2 PyProof.Rows
section
variable {P : Program} {w : World} {K : PySem.W.Frag} {mg : Str → Option Value} {base : Heap} {X : Cx} {N : List Str} {sc fs : Scope} {k : Nat}
def isDM : Option MO → Bool
  | some (.dK _) => true
  | some (.dT _) => true
  | some (.lk _ _ _) => true
  | _ => false
/-- d.get(k, x) -/
def qGet (td ty tx : TD) : TD := fun ε st Q => td ε st fun x s1 => match x with
  | .r a => isDM (s1 a) = true ∧ ty ε s1 fun y s2 => tx ε s2 fun z s3 => match dlook (s3 a) y with
    | some o => Q (o.getD z) s3
    | none => False
  | _ => False
end
end DL
end
section
set_option Elab.async false
set_option linter.all false
set_option maxRecDepth 100000
set_option maxHeartbeats 2000000
namespace L2
open PySem PySem.Spec PyProof.Rows
end L2
namespace DL
open PySem PySem.Spec L2 PyProof.Rows
section
variable {P : Program} {w : World} {K : PySem.W.Frag} {mg : Str → Option Value} {base : Heap} {X : Cx} {N : List Str} {sc fs : Scope} {k : Nat}
/-- the pairs of a dict with tuples of ints as keys -/
def itemsD (kvs : List (List Key × DV)) : List DV := kvs.map fun p => mkT [tupD (p.1.map BS.keyInt), p.2]
/-- .. in e.items(), the dict locked -/
def qiItems (te : TD) : TDi := fun ε st Q => te ε st fun x s1 => match x with
  | .r a => (match s1 a with
    | some (.lk o ws kvs) => BS.IntKeys kvs ∧ Q (itemsD kvs) (fun s => s a = some (.lk o ws kvs)) s1
    | _ => False)
  | _ => False
/-- the expression runs while the dict in slot i is locked -/
def qLockE (i : Nat) (te : TD) : TD := fun ε st Q => match ε[i]? with
  | some (some (.r a)) => (match st a with
    | some (.dT kvs) => ∀ o ws, te ε (up st a (.lk o ws kvs)) fun v s1 => s1 a = some (.lk o ws kvs) ∧ Q v (up s1 a (.dT kvs))
    | _ => False)
  | _ => False
/-- the statement runs while the dict in slot i is locked -/
def qLockS (i : Nat) (t : TDs) : TDs := fun D ε st => match ε[i]? with
  | some (some (.r a)) => (match st a with
    | some (.dT kvs) => ∀ o ws, t { nx := fun ε1 s1 => s1 a = some (.lk o ws kvs) ∧ D.nx ε1 (up s1 a (.dT kvs)), rt := fun x s1 => s1 a = some (.lk o ws kvs) ∧ D.rt x (up s1 a (.dT kvs)), bk := fun ε1 s1 => s1 a = some (.lk o ws kvs) ∧ D.bk ε1 (up s1 a (.dT kvs)), ct := fun ε1 s1 => s1 a = some (.lk o ws kvs) ∧ D.ct ε1 (up s1 a (.dT kvs)) } ε (up st a (.lk o ws kvs))
    | _ => False)
  | _ => False
end
end DL
end
section
set_option Elab.async false
set_option linter.all false
set_option maxRecDepth 100000
set_option maxHeartbeats 2000000
namespace L2.DX
open PySem PySem.Spec PyProof.Rows
end L2.DX
namespace DL
open PySem PySem.Spec L2 PyProof.Rows
section
variable {P : Program} {w : World} {K : PySem.W.Frag} {mg : Str → Option Value} {base : Heap} {X : Cx} {N : List Str} {sc fs : Scope} {k : Nat}
/-- list(e.items()) -/
def qListItems (m : Bool) (te : TD) : TD := fun ε st Q => te ε st fun x s1 => match x with
  | .r a => (match s1 a with
    | some (.dT kvs) => BS.IntKeys kvs ∧ newL m (itemsD kvs) s1 Q
    | _ => False)
  | _ => False
end
end DL
end
section
set_option Elab.async false
set_option linter.all false
set_option maxRecDepth 100000
set_option maxHeartbeats 2000000
namespace DL
open PySem PySem.Spec L2 PyProof.Rows
section
variable {P : Program} {w : World} {K : PySem.W.Frag} {mg : Str → Option Value} {base : Heap} {X : Cx} {N : List Str} {sc fs : Scope} {k : Nat}
/-- xs.pop() -/
def qPop (to : TD) : TD := fun ε st Q => to ε st fun x s1 => match x with
  | .r a => ∃ xs y, s1 a = some (.lst xs) ∧ xs[xs.length - 1]? = some y ∧ Q y (up s1 a (.lst xs.dropLast))
  | _ => False
def keyPD : Key → DV
  | .inl i => .d (.int i)
  | .inr s => .d (.str s)
/-- list(d), scalar keys -/
def qListDK (m : Bool) : RLD := fun xs st Q => match xs with
  | [.r a] => (match st a with
    | some (.dK kvs) => newL m (kvs.map fun kv => keyPD kv.1) st Q
    | _ => False)
  | _ => False
end
end DL
end
section
set_option Elab.async false
set_option linter.all false
set_option maxRecDepth 100000
set_option maxHeartbeats 2000000
namespace DL
open PySem PySem.Spec L2 PyProof.Rows
section
variable {P : Program} {w : World} {K : PySem.W.Frag} {mg : Str → Option Value} {base : Heap} {X : Cx} {N : List Str} {sc fs : Scope} {k : Nat}
def maxOr (d : Int) : List Int → Int
  | [] => d
  | n :: r => r.foldl max n
/-- max(e, default=d) -/
def qMaxDf (te td : TD) : TD := fun ε st Q => te ε st fun x s1 => td ε s1 fun y s2 => match y, litems s2 x with
  | .d (.int d), some l => (match dints l with
    | some ns => Q (.d (.int (maxOr d ns))) s2
    | none => False)
  | _, _ => False
end
end DL
end
section
set_option linter.all false
set_option maxRecDepth 100000
namespace RD
open PySem L2 DL
/-- _law_begun(script, k) slots: 0=script 1=k 2=cells 3=great 4=seed 5=cell -/
def rd_law_begun : TDs :=
  (qSeq (qAsg (qOp (qAdd false) (qSl false (qv 0) (qPart (qv 1)) qNoPart) (qSl false (qv 0) qNoPart (qPart (qv 1)))) (qgN 2))
  (qSeq (qAsg (qLc false (qiSeq (qv 2)) (qgN 5) (qTest (qOp qGe (qv 5) (qOp qPow (qc (.d (.int 10))) (qc (.d (.int 18)))))) (qv 5) [5]) (qgN 3))
  (qSeq (qAsg (qOp (qAdd false) (qc (.d (.int 71))) (qv 1)) (qgN 4))
  (qSeq (qFor (qiSeq (qv 2)) (qgN 5) (qAsg (qOp qMod (qCB qIntC (qCons (qOp (qAdd false) (qOp (qMul false) (qv 4) (qc (.d (.int 48271)))) (qv 5)) qNil)) (qc (.d (.int 2147483647)))) (qgN 4)))
  (qRet (qDisp (("left", (qIf (qTest (qOp qNe (qv 3) (qLst false qNil))) (qOp qIx (qv 3) (qc (.d (.int 0)))) (qc (.d (.int 0))))) :: (("seed", (qv 4)) :: (("cells", (qOp (qAdd false) (qv 2) (qLst false (qCons (qOp (qAdd false) (qOp (qMul false) (qc (.d (.int 53))) (qv 1)) (qc (.d (.int 11)))) qNil)))) :: (("spot", (qc (.d (.int 0)))) :: []))))))))))
/-- _law_draw(m, below) slots: 0=m 1=below 2=found 3=spot 4=cells 5=extra 6=cell 7=blend -/
def rd_law_draw : TDs :=
  (qSeq (qIfS (qTest (qOp qGt (qOp qDGet (qv 0) (qc (.d (.str "left")))) (qc (.d (.int 0))))) (qSeq (qAsg (qOp qMod (qCB qIntC (qCons (qOp qDGet (qv 0) (qc (.d (.str "left")))) qNil)) (qv 1)) (qgN 2))
      (qSeq (qDPut (qv 0) (qc (.d (.str "left"))) (qOp qFdiv (qOp qDGet (qv 0) (qc (.d (.str "left")))) (qv 1)))
      (qRet (qv 2)))) qNext)
  (qSeq (qAsg (qOp qDGet (qv 0) (qc (.d (.str "spot")))) (qgN 3))
  (qSeq (qDPut (qv 0) (qc (.d (.str "spot"))) (qOp (qAdd false) (qv 3) (qc (.d (.int 1)))))
  (qSeq (qPar 4 5 (qCons (qOp qDGet (qv 0) (qc (.d (.str "cells")))) (qCons (qOp (qAdd false) (qOp qDGet (qv 0) (qc (.d (.str "seed")))) (qOp (qMul false) (qOp (qMul false) (qc (.d (.int 40503))) (qv 3)) (qv 3))) qNil)))
  (qSeq (qAsg (qOp qIx (qv 4) (qOp qMod (qCB qIntC (qCons (qv 3) qNil)) (qCB qLen (qCons (qv 4) qNil)))) (qgN 6))
  (qSeq (qAsg (qOp qMod (qCB qIntC (qCons (qOp (qAdd false) (qOp (qMul false) (qv 6) (qOp (qAdd false) (qOp (qMul false) (qc (.d (.int 2))) (qv 3)) (qc (.d (.int 3))))) (qv 5)) qNil)) (qc (.d (.int 2147483647)))) (qgN 7))
  (qSeq (qAsg (qOp qMod (qCB qIntC (qCons (qOp (qAdd false) (qOp (qAdd false) (qOp (qMul false) (qv 7) (qv 7)) (qOp (qMul false) (qc (.d (.int 69621))) (qv 3))) (qOp qDGet (qv 0) (qc (.d (.str "seed"))))) qNil)) (qc (.d (.int 2147483629)))) (qgN 7))
  (qRet (qOp qMod (qOp qFdiv (qOp qMod (qCB qIntC (qCons (qOp (qAdd false) (qOp (qMul false) (qv 7) (qc (.d (.int 48271)))) (qv 3)) qNil)) (qc (.d (.int 2147483647)))) (qc (.d (.int 11)))) (qv 1))))))))))
/-- divides(a, b) slots: 0=a 1=b 2=one 3=other -/
def rd_divides : TDs :=
  (qSeq (qFor (qiZip (qCons (qv 0) (qCons (qv 1) qNil))) (qgT 2 (qgCons (qgN 2) (qgCons (qgN 3) qgNil))) (qIfS (qTest (qOp qGt (qv 2) (qv 3))) (qRet (qc (.d (.bool false)))) qNext))
  (qRet (qc (.d (.bool true)))))
/-- support_of(monomial) slots: 0=monomial 1=variable 2=exponent -/
def rd_support_of : TDs :=
  (qRet (qCB qTupleC (qCons (qLc false (qiEnum (qCons (qv 0) qNil)) (qgT 2 (qgCons (qgN 1) (qgCons (qgN 2) qgNil))) (qTest (qOp qGt (qv 2) (qc (.d (.int 0))))) (qv 1) [1, 2]) qNil)))
/-- least_ones(monomials) slots: 0=monomials 1=found 2=monomial 3=other -/
def rd_least_ones (sp_divides : SpD) : TDs :=
  (qSeq (qAsg (qLst true qNil) (qgN 1))
  (qSeq (qFor (qiSeq (BS.qSortB false (qv 0))) (qgN 2) (qIfS (qNotT (qTest (qCB qAny (qCons (qLc false (qiSeq (qv 1)) (qgN 3) qYes (qCall sp_divides (qCons (qv 3) (qCons (qv 2) qNil))) [3]) qNil)))) (qDrop (qAppend (qv 1) (qv 2))) qNext))
  (qRet (qv 1))))
/-- made(n, monomials) slots: 0=n 1=monomials 2=found 3=monomial -/
def rd_made (sp_least_ones : SpD) : TDs :=
  (qSeq (qAsg (qCall sp_least_ones (qCons (qv 1) qNil)) (qgN 2))
  (qSeq (qIfS (qTest (qOp qGt (qCB qLen (qCons (qv 2) qNil)) (qc (.d (.int 60))))) qNever qNext)
  (qSeq (qFor (qiSeq (qv 2)) (qgN 3) (qIfS (qTest (qOp qGt (qCB qMax1 (qCons (qv 3) qNil)) (qc (.d (.int 60))))) qNever qNext))
  (qRet (qTup (qCons (qv 0) (qCons (qCB qTupleC (qCons (qv 2) qNil)) qNil)))))))
/-- want_small(ideal) slots: 0=ideal -/
def rd_want_small : TDs :=
  (qSeq (qIfS (qTest (qOp qGt (qOp qIx (qv 0) (qc (.d (.int 0)))) (qc (.d (.int 8))))) qNever qNext)
  (qIfS (qTest (qOp qGt (qCB qLen (qCons (qOp qIx (qv 0) (qc (.d (.int 1)))) qNil)) (qc (.d (.int 10))))) qNever qNext))
/-- holds(part, monomial) slots: 0=part 1=monomial 2=entry 3=exponent -/
def rd_holds : TDs :=
  (qSeq (qFor (qiZip (qCons (qv 0) (qCons (qv 1) qNil))) (qgT 2 (qgCons (qgN 2) (qgCons (qgN 3) qgNil))) (qIfS (qTest (qChain qLt qLe (qc (.d (.int 0))) (qv 2) (qv 3))) (qRet (qc (.d (.bool true)))) qNext))
  (qRet (qc (.d (.bool false)))))
/-- powers_of(part) slots: 0=part 1=found 2=i 3=exponent 4=k -/
def rd_powers_of : TDs :=
  (qSeq (qAsg (qLst true qNil) (qgN 1))
  (qSeq (qFor (qiEnum (qCons (qv 0) qNil)) (qgT 2 (qgCons (qgN 2) (qgCons (qgN 3) qgNil))) (qIfS (qTest (qOp qGt (qv 3) (qc (.d (.int 0))))) (qDrop (qAppend (qv 1) (qCB qTupleC (qCons (qLc false (qiRng1 (qCons (qCB qLen (qCons (qv 0) qNil)) qNil)) (qgN 4) qYes (qIf (qTest (qOp qEq (qv 4) (qv 2))) (qv 3) (qc (.d (.int 0)))) [4]) qNil)))) qNext))
  (qRet (qv 1))))
/-- is_around(part, other) slots: 0=part 1=other 2=power -/
def rd_is_around (sp_powers_of : SpD) (sp_holds : SpD) : TDs :=
  (qRet (qCB qAll (qCons (qLc false (qiSeq (qCall sp_powers_of (qCons (qv 1) qNil))) (qgN 2) qYes (qCall sp_holds (qCons (qv 0) (qCons (qv 2) qNil))) [2]) qNil)))
/-- without_idle(parts) slots: 0=parts 1=once 2=part 3=other -/
def rd_without_idle (sp_is_around : SpD) : TDs :=
  (qSeq (qAsg (BS.qSortB false (qv 0)) (qgN 1))
  (qRet (qLc false (qiSeq (qv 1)) (qgN 2) (qNotT (qTest (qCB qAny (qCons (qLc false (qiSeq (qv 1)) (qgN 3) qYes (qAndV (qOp qNe (qv 2) (qv 3)) (qCall sp_is_around (qCons (qv 2) (qCons (qv 3) qNil)))) [3]) qNil)))) (qv 2) [2])))
/-- split(part, monomial) slots: 0=part 1=monomial 2=found 3=i 4=exponent -/
def rd_split (sp_holds : SpD) : TDs :=
  (qSeq (qIfS (qTest (qCall sp_holds (qCons (qv 0) (qCons (qv 1) qNil)))) (qRet (qLst false (qCons (qv 0) qNil))) qNext)
  (qSeq (qAsg (qLst true qNil) (qgN 2))
  (qSeq (qFor (qiEnum (qCons (qv 1) qNil)) (qgT 2 (qgCons (qgN 3) (qgCons (qgN 4) qgNil))) (qIfS (qTest (qOp qGt (qv 4) (qc (.d (.int 0))))) (qDrop (qAppend (qv 2) (qOp (qAdd false) (qOp (qAdd false) (qSl false (qv 0) qNoPart (qPart (qv 3))) (qTup (qCons (qv 4) qNil))) (qSl false (qv 0) (qPart (qOp (qAdd false) (qv 3) (qc (.d (.int 1))))) qNoPart)))) qNext))
  (qRet (qv 2)))))
/-- components_of(n, generators) slots: 0=n 1=generators 2=found 3=one 4=wider 5=part -/
def rd_components_of (sp_split : SpD) (sp_without_idle : SpD) : TDs :=
  (qSeq (qAsg (qLst false (qCons (qOp (qMul false) (qTup (qCons (qc (.d (.int 0))) qNil)) (qv 0)) qNil)) (qgN 2))
  (qSeq (qFor (qiSeq (qv 1)) (qgN 3) (qSeq (qAsg (qLst true qNil) (qgN 4))
      (qSeq (qFor (qiSeq (qv 2)) (qgN 5) (qDrop (qExtend (qv 4) (qCall sp_split (qCons (qv 5) (qCons (qv 3) qNil))))))
      (qAsg (qCall sp_without_idle (qCons (qv 4) qNil)) (qgN 2)))))
  (qRet (qCB qTupleC (qCons (qSortD false (qv 2)) qNil)))))
/-- components(ideal) slots: 0=ideal -/
def rd_components (sp_want_small : SpD) (sp_components_of : SpD) : TDs :=
  (qSeq (qDrop (qCall sp_want_small (qCons (qv 0) qNil)))
  (qRet (qCall sp_components_of (qCons (qOp qIx (qv 0) (qc (.d (.int 0)))) (qCons (qOp qIx (qv 0) (qc (.d (.int 1)))) qNil)))))
/-- turned(part, c) slots: 0=part 1=c 2=entry 3=top -/
def rd_turned : TDs :=
  (qRet (qCB qTupleC (qCons (qLc false (qiZip (qCons (qv 0) (qCons (qv 1) qNil))) (qgT 2 (qgCons (qgN 2) (qgCons (qgN 3) qgNil))) qYes (qIf (qTest (qOp qGt (qv 2) (qc (.d (.int 0))))) (qOp qSub (qOp (qAdd false) (qv 3) (qc (.d (.int 1)))) (qv 2)) (qc (.d (.int 0)))) [2, 3]) qNil)))
/-- dual_of(ideal, c) slots: 0=ideal 1=c 2=n 3=generators 4=index 5=one 6=part -/
def rd_dual_of (sp_want_small : SpD) (sp_divides : SpD) (sp_components_of : SpD) (sp_turned : SpD) (sp_made : SpD) : TDs :=
  (qSeq (qDrop (qCall sp_want_small (qCons (qv 0) qNil)))
  (qSeq (qAsg (qv 0) (qgT 2 (qgCons (qgN 2) (qgCons (qgN 3) qgNil))))
  (qSeq (qFor (qiEnum (qCons (qv 3) qNil)) (qgT 2 (qgCons (qgN 4) (qgCons (qgN 5) qgNil))) (qIfS (qNotT (qTest (qCall sp_divides (qCons (qv 5) (qCons (qv 1) qNil))))) qNever qNext))
  (qRet (qCall sp_made (qCons (qv 2) (qCons (qLc false (qiSeq (qCall sp_components_of (qCons (qv 2) (qCons (qv 3) qNil)))) (qgN 6) qYes (qCall sp_turned (qCons (qv 6) (qCons (qv 1) qNil))) [6]) qNil)))))))
/-- primes(ideal) slots: 0=ideal 1=part -/
def rd_primes (sp_components : SpD) (sp_support_of : SpD) : TDs :=
  (qRet (qCB qTupleC (qCons (BS.qSortB false (qLc false (qiSeq (qCall sp_components (qCons (qv 0) qNil))) (qgN 1) qYes (qCall sp_support_of (qCons (qv 1) qNil)) [1])) qNil)))
/-- dimension(ideal) slots: 0=ideal 1=line 2=prime -/
def rd_dimension (sp_primes : SpD) : TDs :=
  (qSeq (qAsg (qCall sp_primes (qCons (qv 0) qNil)) (qgN 1))
  (qSeq (qIfS (qTest (qOp qEq (qv 1) (qTup qNil))) (qRet (qUn qNeg (qc (.d (.int 1))))) qNext)
  (qRet (qOp qSub (qOp qIx (qv 0) (qc (.d (.int 0)))) (qCB qMin1 (qCons (qLc false (qiSeq (qv 1)) (qgN 2) qYes (qCB qLen (qCons (qv 2) qNil)) [2]) qNil))))))
/-- _law_subsets(some) slots: 0=some 1=found 2=one 3=a -/
def rd_law_subsets : TDs :=
  (qSeq (qAsg (qLst true (qCons (qTup qNil) qNil)) (qgN 1))
  (qSeq (qFor (qiSeq (qv 0)) (qgN 2) (qDrop (qExtend (qv 1) (qLc false (qiSeq (qv 1)) (qgN 3) qYes (qOp (qAdd false) (qv 3) (qTup (qCons (qv 2) qNil))) [3]))))
  (qRet (qv 1))))
/-- minimal_primes(ideal) slots: 0=ideal 1=line 2=found 3=prime 4=other 5=i -/
def rd_minimal_primes (sp_primes : SpD) : TDs :=
  (qSeq (qAsg (qCall sp_primes (qCons (qv 0) qNil)) (qgN 1))
  (qSeq (qAsg (qLst true qNil) (qgN 2))
  (qSeq (qFor (qiSeq (qv 1)) (qgN 3) (qIfS (qNotT (qTest (qCB qAny (qCons (qLc false (qiSeq (qv 1)) (qgN 4) qYes (qAndV (qOp qNe (qv 4) (qv 3)) (qCB qAll (qCons (qLc false (qiSeq (qv 4)) (qgN 5) qYes (qOp (qIn false) (qv 5) (qv 3)) [5]) qNil))) [4]) qNil)))) (qDrop (qAppend (qv 2) (qv 3))) qNext))
  (qRet (qCB qTupleC (qCons (qv 2) qNil))))))
end RD
end
section
set_option linter.all false
set_option maxRecDepth 100000
set_option maxHeartbeats 1000000
namespace UC
open PySem L2 DL
def Sh (n : Nat) (d : PyData) : Prop := d.canLay0 = true ∧ d.depth ≤ n
theorem Sh.shaped {d : PyData} (h : Sh 64 d) : SeqAt.shaped d = true := by
  unfold SeqAt.shaped
  rw [h.1, decide_eq_true h.2]
  rfl
theorem Sh.mono {n m : Nat} {d : PyData} (h : Sh n d) (hm : n ≤ m) : Sh m d := ⟨h.1, Nat.le_trans h.2 hm⟩
theorem sh_int {n : Nat} {i : Int} : Sh n (.int i) := ⟨by simp [PyData.canLay0], by simp [PyData.depth]⟩
theorem sh_bool {n : Nat} {b : Bool} : Sh n (.bool b) := ⟨by simp [PyData.canLay0], by simp [PyData.depth]⟩
theorem canAll : ∀ {l : List PyData}, (∀ x ∈ l, x.canLay0 = true) → PyData.canLayAll0 l = true
  | [], _ => by simp [PyData.canLayAll0]
  | x :: r, h => by
    have h1 := h x List.mem_cons_self
    have h2 := canAll (l := r) fun y hy => h y (List.mem_cons_of_mem _ hy)
    simp [PyData.canLayAll0, h1, h2]
theorem depAll {n : Nat} : ∀ {l : List PyData}, (∀ x ∈ l, x.depth ≤ n) → PyData.depthAll l ≤ n
  | [], _ => by simp [PyData.depthAll]
  | x :: r, h => by
    have h1 := h x List.mem_cons_self
    have h2 := depAll (l := r) fun y hy => h y (List.mem_cons_of_mem _ hy)
    simp only [PyData.depthAll]
    omega
theorem sh_list {n : Nat} {l : List PyData} (h : ∀ x ∈ l, Sh n x) : Sh (n + 1) (.list l) := by
  have h1 := canAll fun x hx => (h x hx).1
  have h2 := depAll fun x hx => (h x hx).2
  exact ⟨by simp [PyData.canLay0, h1], by simp only [PyData.depth]; omega⟩
theorem sh_tuple {n : Nat} {l : List PyData} (h : ∀ x ∈ l, Sh n x) : Sh (n + 1) (.tuple l) := by
  have h1 := canAll fun x hx => (h x hx).1
  have h2 := depAll fun x hx => (h x hx).2
  exact ⟨by simp [PyData.canLay0, h1], by simp only [PyData.depth]; omega⟩
theorem forall_map {α : Type} {f : α → PyData} {l : List α} {p : PyData → Prop} (h : ∀ x ∈ l, p (f x)) : ∀ y ∈ l.map f, p y := fun y hy => by
  obtain ⟨x, hx, rfl⟩ := List.mem_map.mp hy
  exact h x hx
/-- a monomial, a tuple of monomials, a list of them -/
abbrev TI (a : List Int) : PyData := .tuple (a.map .int)
abbrev LI (a : List Int) : PyData := .list (a.map .int)
abbrev TT (l : List (List Int)) : PyData := .tuple (l.map TI)
abbrev LT (l : List (List Int)) : PyData := .list (l.map TI)
theorem sh_TI {n : Nat} {a : List Int} : Sh (n + 1) (TI a) := sh_tuple (forall_map fun _ _ => sh_int)
theorem sh_LI {n : Nat} {a : List Int} : Sh (n + 1) (LI a) := sh_list (forall_map fun _ _ => sh_int)
theorem sh_TT {n : Nat} {l : List (List Int)} : Sh (n + 2) (TT l) := sh_tuple (forall_map fun _ _ => sh_TI)
theorem sh_LT {n : Nat} {l : List (List Int)} : Sh (n + 2) (LT l) := sh_list (forall_map fun _ _ => sh_TI)
@[simp] theorem shaped_TI {a : List Int} : SeqAt.shaped (TI a) = true := (sh_TI (n := 63)).shaped
@[simp] theorem shaped_LI {a : List Int} : SeqAt.shaped (LI a) = true := (sh_LI (n := 63)).shaped
@[simp] theorem shaped_TT {a : List (List Int)} : SeqAt.shaped (TT a) = true := (sh_TT (n := 62)).shaped
@[simp] theorem shaped_LT {a : List (List Int)} : SeqAt.shaped (LT a) = true := (sh_LT (n := 62)).shaped
@[simp] theorem shaped_int {i : Int} : SeqAt.shaped (.int i) = true := (sh_int (n := 64)).shaped
@[simp] theorem shaped_bool {i : Bool} : SeqAt.shaped (.bool i) = true := (sh_bool (n := 64)).shaped
@[simp] theorem shaped_nilL : SeqAt.shaped (.list []) = true := by decide +kernel
@[simp] theorem shaped_nilT : SeqAt.shaped (.tuple []) = true := by decide +kernel
/-- a kind of data whose equality is that of what it tells -/
def EqK {α : Type} [DecidableEq α] (f : α → PyData) : Prop := ∀ x y, PyData.eqv (f x) (f y) = decide (x = y)
theorem eqk_int : EqK PyData.int := fun x y => by
  rw [PyData.eqv]
  by_cases h : x = y <;> simp [h]
theorem eqk_bool : EqK PyData.bool := fun x y => by
  rw [PyData.eqv]
  cases x <;> cases y <;> rfl
theorem eqvAll_map {α : Type} [DecidableEq α] {f : α → PyData} (h : EqK f) : ∀ xs ys : List α, PyData.eqvAll (xs.map f) (ys.map f) = decide (xs = ys)
  | [], [] => by simp [PyData.eqvAll]
  | [], y :: ys => by simp [PyData.eqvAll]
  | x :: xs, [] => by simp [PyData.eqvAll]
  | x :: xs, y :: ys => by
    rw [List.map_cons, List.map_cons, PyData.eqvAll, h x y, eqvAll_map h xs ys]
    by_cases h1 : x = y <;> by_cases h2 : xs = ys <;> simp [h1, h2]
theorem eqk_tuple {α : Type} [DecidableEq α] {f : α → PyData} (h : EqK f) : EqK fun l : List α => PyData.tuple (l.map f) := fun xs ys => by
  rw [PyData.eqv, eqvAll_map h]
theorem eqk_list {α : Type} [DecidableEq α] {f : α → PyData} (h : EqK f) : EqK fun l : List α => PyData.list (l.map f) := fun xs ys => by
  rw [PyData.eqv, eqvAll_map h]
@[simp] theorem eqv_int (x y : Int) : PyData.eqv (.int x) (.int y) = decide (x = y) := eqk_int x y
@[simp] theorem eqv_bool (x y : Bool) : PyData.eqv (.bool x) (.bool y) = decide (x = y) := eqk_bool x y
@[simp] theorem eqv_TI (x y : List Int) : PyData.eqv (TI x) (TI y) = decide (x = y) := eqk_tuple eqk_int x y
@[simp] theorem eqv_LI (x y : List Int) : PyData.eqv (LI x) (LI y) = decide (x = y) := eqk_list eqk_int x y
@[simp] theorem eqv_TT (x y : List (List Int)) : PyData.eqv (TT x) (TT y) = decide (x = y) := eqk_tuple (eqk_tuple eqk_int) x y
@[simp] theorem eqv_LT (x y : List (List Int)) : PyData.eqv (LT x) (LT y) = decide (x = y) := eqk_list (eqk_tuple eqk_int) x y
@[simp] theorem eqv_nilL {α : Type} (f : α → PyData) (x : List α) : PyData.eqv (.list (x.map f)) (.list []) = decide (x = []) := by
  cases x <;> simp [PyData.eqv, PyData.eqvAll]
@[simp] theorem eqv_nilT {α : Type} (f : α → PyData) (x : List α) : PyData.eqv (.tuple (x.map f)) (.tuple []) = decide (x = []) := by
  cases x <;> simp [PyData.eqv, PyData.eqvAll]
@[simp] theorem mkT_map (l : List PyData) : mkT (l.map .d) = .d (.tuple l) := by
  unfold mkT
  rw [datas_map]
@[simp] theorem mkT_2 (a b : PyData) : mkT [.d a, .d b] = .d (.tuple [a, b]) := rfl
@[simp] theorem mkT_3 (a b c : PyData) : mkT [.d a, .d b, .d c] = .d (.tuple [a, b, c]) := rfl
@[simp] theorem mkT_0 : mkT [] = .d (.tuple []) := rfl
@[simp] theorem mkT_1 (a : PyData) : mkT [.d a] = .d (.tuple [a]) := rfl
theorem sizeL : sizeLine = 16777216 := rfl
theorem fmod_range {i j : Int} (h : 0 < j) : 0 ≤ i.fmod j ∧ i.fmod j < j := by
  rw [Int.fmod_eq_emod_of_nonneg i (by omega)]
  exact ⟨Int.emod_nonneg _ (by omega), Int.emod_lt_of_pos _ h⟩
theorem cmul_l {i j : Int} (h1 : -(2 ^ 64) < i) (h2 : i < 2 ^ 64) : CMulA i j := .inl (.inl ⟨h1, h2⟩)
theorem cmul_r {i j : Int} (h1 : -(2 ^ 64) < j) (h2 : j < 2 ^ 64) : CMulA i j := .inl (.inr ⟨h1, h2⟩)
theorem cutD_len {α : Type} (xs : List α) (lo hi : Option Int) : (cutD xs lo hi).length ≤ xs.length := by
  unfold cutD
  rw [List.length_take, List.length_drop]
  omega
theorem dints_map2 (l : List Int) : dints ((l.map PyData.int).map DV.d) = some l := by
  rw [List.map_map]
  exact dints_map l
theorem dbools_map2 (l : List Bool) : dbools ((l.map PyData.bool).map DV.d) = some l := by
  rw [List.map_map]
  exact dbools_map l
theorem atI_map2 {α : Type} {f : α → PyData} {l : List α} {j : Nat} (h : j < l.length) : atI (List.map DV.d (List.map f l)) (j : Int) = some (.d (f l[j])) := atI_nat (by rw [List.getElem?_map, List.getElem?_map, List.getElem?_eq_getElem h]; rfl)
theorem comp_mapT {α : Type} (h : α → DV) (f : α → DV) {inv : Sto → Prop} {g : TDg} {te : TD} {ε : DL.Env} {Kc : List DV → Sto → Prop} {st : Sto} (hi : inv st) : ∀ (l : List α) (acc : List DV),
    (∀ p ∈ l, ∀ Q : DV → Sto → Prop, Q (f p) st → g (h p) ε st fun ε1 s1 => te ε1 s1 Q) → Kc (acc ++ l.map f) st → qComp inv g qYes te ε Kc (l.map h) acc st
  | [], acc, _, k => ⟨hi, by rw [List.map_nil, List.append_nil] at k; exact k⟩
  | x :: xs, acc, hx, k => by
    refine ⟨hi, ?_⟩
    refine hx x List.mem_cons_self (fun y s3 => qComp inv g qYes te ε Kc (xs.map h) (acc ++ [y]) s3) ?_
    exact comp_mapT h f hi xs (acc ++ [f x]) (fun y hy => hx y (List.mem_cons_of_mem _ hy)) (by rw [List.append_assoc]; exact k)
theorem comp_fmT {α : Type} (h : α → DV) (p : α → Bool) (f : α → DV) {inv : Sto → Prop} {g : TDg} {tt : TDt} {te : TD} {ε : DL.Env} {Kc : List DV → Sto → Prop} {st : Sto} (hi : inv st) : ∀ (l : List α) (acc : List DV),
    (∀ x ∈ l, ∀ (Q1 : DV → Sto → Prop) (Q2 : Sto → Prop), (if p x = true then Q1 (f x) st else Q2 st) → g (h x) ε st fun ε1 s1 => tt ε1 s1 fun b s2 => if b = true then te ε1 s2 Q1 else Q2 s2) → Kc (acc ++ (l.filter p).map f) st → qComp inv g tt te ε Kc (l.map h) acc st
  | [], acc, _, k => ⟨hi, by rw [List.filter_nil, List.map_nil, List.append_nil] at k; exact k⟩
  | x :: xs, acc, hx, k => by
    refine ⟨hi, ?_⟩
    refine hx x List.mem_cons_self (fun y s3 => qComp inv g tt te ε Kc (xs.map h) (acc ++ [y]) s3) (fun s2 => qComp inv g tt te ε Kc (xs.map h) acc s2) ?_
    cases e : p x with
    | true =>
      rw [if_pos rfl]
      refine comp_fmT h p f hi xs (acc ++ [f x]) (fun y hy => hx y (List.mem_cons_of_mem _ hy)) ?_
      rw [List.filter_cons, if_pos e, List.map_cons] at k
      rw [List.append_assoc]
      exact k
    | false =>
      rw [if_neg Bool.false_ne_true]
      refine comp_fmT h p f hi xs acc (fun y hy => hx y (List.mem_cons_of_mem _ hy)) ?_
      rw [List.filter_cons, if_neg (by rw [e]; exact Bool.false_ne_true)] at k
      exact k
/-- a for over typed items: i items gone -/
theorem for_byT {α : Type} (h : α → DV) {inv : Sto → Prop} {g : TDg} {tb : TDs} {D : EndsD} {l : List α} {ε : DL.Env} {st : Sto} (W : Nat → DL.Env → Sto → Prop) (h0 : W 0 ε st) (hi : ∀ i ε st, W i ε st → inv st)
    (hs : ∀ (i : Nat) (x : α) ε st, l[i]? = some x → W i ε st → ∀ L : DL.Env → Sto → Prop, (∀ ε' st', W (i + 1) ε' st' → L ε' st') → g (h x) ε st fun ε1 s1 => tb { D with nx := L, ct := L, bk := D.nx } ε1 s1) (hd : ∀ ε st, W l.length ε st → D.nx ε st) : qLoop inv g tb D (l.map h) ε st := by
  have : ∀ (r : List α) (i : Nat) ε st, l.drop i = r → i + r.length = l.length → W i ε st → qLoop inv g tb D (r.map h) ε st := by
    intro r
    induction r with
    | nil =>
      intro i ε st hdr hlen w
      have e : i = l.length := by simpa using hlen
      subst e
      exact ⟨hi _ _ _ w, hd _ _ w⟩
    | cons y r ih =>
      intro i ε st hdr hlen w
      have hx : l[i]? = some y := by
        have := congrArg (fun z => z[0]?) hdr
        simp only [List.getElem?_drop, List.getElem?_cons_zero, Nat.add_zero] at this
        exact this
      refine ⟨hi _ _ _ w, hs i y ε st hx w _ fun ε' st' w' => ?_⟩
      refine ih (i + 1) ε' st' ?_ (by simp only [List.length_cons] at hlen; omega) w'
      rw [← List.drop_drop, hdr]
      rfl
  exact this l 0 ε st rfl (by simp) h0
theorem fg_ret {Q : DV → Sto → Prop} {x : DV} {st : Sto} (h : Q x st) : Fg Q x st := ⟨st, Le.refl st, h⟩
theorem in_IT (neg : Bool) (i : Int) (a : List Int) (st : Sto) (Q : DV → Sto → Prop) : qIn neg (.d (.int i)) (.d (TI a)) st Q = Q (.d (.bool (if neg then !decide (i ∈ a) else decide (i ∈ a)))) st := qIn_IT neg i a st Q
theorem in_IL (neg : Bool) (i : Int) (a : List Int) (st : Sto) (Q : DV → Sto → Prop) : qIn neg (.d (.int i)) (.d (LI a)) st Q = Q (.d (.bool (if neg then !decide (i ∈ a) else decide (i ∈ a)))) st := qIn_IL neg i a st Q
theorem in_TT (neg : Bool) (a : List Int) (l : List (List Int)) (st : Sto) (Q : DV → Sto → Prop) : qIn neg (.d (TI a)) (.d (TT l)) st Q = Q (.d (.bool (if neg then !decide (a ∈ l) else decide (a ∈ l)))) st := qIn_TT neg a l st Q
theorem in_TL (neg : Bool) (a : List Int) (l : List (List Int)) (st : Sto) (Q : DV → Sto → Prop) : qIn neg (.d (TI a)) (.d (LT l)) st Q = Q (.d (.bool (if neg then !decide (a ∈ l) else decide (a ∈ l)))) st := qIn_TL neg a l st Q
theorem keyT_ints : ∀ a : List Int, keyT ((a.map PyData.int).map DV.d) = some (a.map Sum.inl)
  | [] => rfl
  | x :: a => by
    rw [List.map_cons, List.map_cons, keyT, keyT_ints a]
    rfl
theorem keyX_TI (a : List Int) : keyX (.d (TI a)) = some (a.map Sum.inl) := keyT_ints a
end UC
end
section
set_option linter.all false
set_option maxRecDepth 100000
set_option maxHeartbeats 1000000
open PySem L2 DL
local macro_rules | `(tactic| walk_at "E") => `(tactic| (try simp only [qAsg, qRet, qDrop, qIfS, qTest, qAndT, qOrT, qNotT, qAndV, qOrV, qNotV, qIf, qOp, qUn, qChain, onB, qv, qc, qgN, qgT, qgCons, qgNil, qCons, qNil, qTup, qLst, qPar, qPar3, qAug, qCB, qCall, qLen, qTupleC, qListC, qMax2, qMin2, qIntC, qSum, qAny, qAll, qIsi, tyName, qAdd, qSub, qMul, qFdiv, qMod, qPow, qI2, qCmpI, qEq, qNe, qLt, qLe, qGt, qGe, qNeg, qIx, qDGet, qDIn, qDPut, qSl, qPart, qNoPart, qNext, qFor, qiSeq, qiRng1, qiRng2, qiZip, qiEnum, qLc, seqSrc, lsrc, titems, litems, sitems, fz, newL, List.getElem?_cons_zero, List.getElem?_cons_succ, List.set_cons_zero, List.set_cons_succ, if_true, if_false, Bool.false_eq_true, ite_true, ite_false, up_same, reduceIte, decide_true, decide_false, true_and, and_true]))
namespace UC
open PySem L2 DL RD
abbrev I (i : Int) : DV := .d (.int i)
abbrev Bo (b : Bool) : DV := .d (.bool b)
def mkM (left seed : Int) (cells : List Int) (spot : Int) : MO := .dK [(.inr "left", I left), (.inr "seed", I seed), (.inr "cells", .d (.list (cells.map .int))), (.inr "spot", I spot)]
def DrawSt (st : Sto) (a : Addr) (B : Nat) : Prop := ∃ (left seed : Int) (cells : List Int) (spot : Int), st a = some (mkM left seed cells spot) ∧ cells ≠ [] ∧ 0 ≤ spot ∧ spot ≤ B
theorem DrawSt.mono {st : Sto} {a : Addr} {B B' : Nat} (h : DrawSt st a B) (hb : B ≤ B') : DrawSt st a B' := by
  obtain ⟨l, s, c, p, h1, h2, h3, h4⟩ := h
  exact ⟨l, s, c, p, h1, h2, h3, by omega⟩
theorem look_left {l s : Int} {c : List Int} {p : Int} : dlook (some (mkM l s c p)) (.d (.str "left")) = some (some (I l)) := by rfl
theorem look_seed {l s : Int} {c : List Int} {p : Int} : dlook (some (mkM l s c p)) (.d (.str "seed")) = some (some (I s)) := by rfl
theorem look_cells {l s : Int} {c : List Int} {p : Int} : dlook (some (mkM l s c p)) (.d (.str "cells")) = some (some (.d (.list (c.map .int)))) := by rfl
theorem look_spot {l s : Int} {c : List Int} {p : Int} : dlook (some (mkM l s c p)) (.d (.str "spot")) = some (some (I p)) := by rfl
theorem put_left {l s l' : Int} {c : List Int} {p : Int} : dput (some (mkM l s c p)) (.d (.str "left")) (I l') = some (mkM l' s c p) := by rfl
theorem put_spot {l s p' : Int} {c : List Int} {p : Int} : dput (some (mkM l s c p)) (.d (.str "spot")) (I p') = some (mkM l s c p') := by rfl
def sp_law_draw : SpD := fun xs st Q => ∃ (a : Addr) (below : Int) (B : Nat), xs = [.r a, I below] ∧ 1 ≤ below ∧ below < 2 ^ 30 ∧ B < 2 ^ 50 ∧ DrawSt st a B ∧
  ∀ (v : Int) st', 0 ≤ v → v < below → DrawSt st' a (B + 1) → (∀ b, b ≠ a → st' b = st b) → Q (I v) st'
theorem sem_law_draw : ∀ xs st Q, sp_law_draw xs st Q → rd_law_draw { nx := fun _ st' => Fg Q (.d .none) st', rt := Fg Q } (startD 8 xs) st := by
  rintro xs st Q ⟨a, below, B, rfl, h1, h2, hB, ⟨left, seed, cells, spot, hm, hc, hs0, hsB⟩, k⟩
  have e0 : startD 8 [.r a, I below] = [some (.r a), some (I below), none, none, none, none, none, none] := rfl
  rw [e0]
  unfold rd_law_draw
  refine seq fun N hN => ?_
  walk_at "E"
  simp only [hm, look_left]
  walk_at "E"
  by_cases hl : 0 < left
  · simp only [hl, decide_true, if_true]
    refine seq fun N1 hN1 => ?_
    walk_at "E"
    simp only [hm, look_left]
    walk_at "E"
    refine ⟨by omega, hN1 _ _ ?_⟩
    refine seq fun N2 hN2 => ?_
    walk_at "E"
    simp only [hm, look_left, put_left]
    walk_at "E"
    refine ⟨.inl ⟨by omega, by omega⟩, hN2 _ _ ?_⟩
    walk_at "E"
    obtain ⟨r1, r2⟩ := fmod_range (i := left) (j := below) (by omega)
    exact ⟨_, Le.refl _, k _ _ r1 r2 ⟨_, seed, cells, spot, up_same, hc, hs0, by omega⟩ fun b hb => up_ne hb⟩
  · simp only [hl, decide_false]
    walk_at "E"
    refine hN _ _ ?_
    clear hN N
    refine seq fun N hN => ?_
    walk_at "E"
    simp only [hm, look_spot]
    refine hN _ _ ?_
    clear hN N
    refine seq fun N hN => ?_
    walk_at "E"
    simp only [hm, put_spot]
    walk_at "E"
    refine hN _ _ ?_
    clear hN N
    refine seq fun N hN => ?_
    walk_at "E"
    simp only [up_same, look_cells, look_seed]
    walk_at "E"
    refine ⟨cmul_l (by omega) (by omega), cmul_r (by omega) (by omega), hN _ _ ?_⟩
    clear hN N
    have hlen : 0 < cells.length := List.length_pos_iff.mpr hc
    obtain ⟨j, hj, hjl⟩ : ∃ j : Nat, spot.fmod (cells.length : Int) = (j : Int) ∧ j < cells.length := by
      obtain ⟨r1, r2⟩ := fmod_range (i := spot) (j := (cells.length : Int)) (by omega)
      exact ⟨(spot.fmod (cells.length : Int)).toNat, by omega, by omega⟩
    refine seq fun N hN => ?_
    walk_at "E"
    simp only [List.length_map, hj, atI_map2 hjl]
    refine ⟨by omega, hN _ _ ?_⟩
    clear hN N
    refine seq fun N hN => ?_
    walk_at "E"
    refine ⟨cmul_l (by omega) (by omega), cmul_r (by omega) (by omega), by omega, hN _ _ ?_⟩
    clear hN N
    generalize hb1 : (cells[j] * (2 * spot + 3) + (seed + 40503 * spot * spot)).fmod 2147483647 = b1
    obtain ⟨r1, r2⟩ := fmod_range (i := cells[j] * (2 * spot + 3) + (seed + 40503 * spot * spot)) (j := 2147483647) (by omega)
    rw [hb1] at r1 r2
    refine seq fun N hN => ?_
    walk_at "E"
    simp only [up_same, look_seed]
    walk_at "E"
    refine ⟨cmul_l (by omega) (by omega), cmul_l (by omega) (by omega), by omega, hN _ _ ?_⟩
    clear hN N
    generalize hb2 : (b1 * b1 + 69621 * spot + seed).fmod 2147483629 = b2
    obtain ⟨r3, r4⟩ := fmod_range (i := b1 * b1 + 69621 * spot + seed) (j := 2147483629) (by omega)
    rw [hb2] at r3 r4
    walk_at "E"
    refine ⟨cmul_l (by omega) (by omega), by omega, .inl ⟨by omega, by omega⟩, by omega, ?_⟩
    obtain ⟨r5, r6⟩ := fmod_range (i := (((b2 * 48271 + spot).fmod 2147483647).fdiv 11)) (j := below) (by omega)
    exact ⟨_, Le.refl _, k _ _ r5 r6 ⟨left, seed, cells, spot + 1, up_same, hc, by omega, by omega⟩ fun b hb => up_ne hb⟩
theorem len_law_draw : ∀ xs st Q, sp_law_draw xs st Q → xs.length = 2 := by
  rintro xs st Q ⟨a, below, B, rfl, _⟩
  rfl
/-- the cells of a turn -/
def sp_law_begun : SpD := fun xs st Q => ∃ (ns : List Int) (k : Int), xs = [.d (.list (ns.map .int)), I k] ∧ ns.length ≤ 63 ∧ 0 ≤ k ∧ k < 2 ^ 40 ∧
  ∀ p st', st p = none → DrawSt st' p 0 → (∀ b, b ≠ p → st' b = st b) → Q (.r p) st'
theorem len_law_begun : ∀ xs st Q, sp_law_begun xs st Q → xs.length = 2 := by
  rintro xs st Q ⟨ns, k, rfl, _⟩
  rfl
theorem sem_law_begun : ∀ xs st Q, sp_law_begun xs st Q → rd_law_begun { nx := fun _ st' => Fg Q (.d .none) st', rt := Fg Q } (startD 6 xs) st := by
  rintro xs st Q ⟨ns, k, rfl, h1, h2, h3, K⟩
  have e0 : startD 6 [.d (.list (ns.map .int)), I k] = [some (.d (.list (ns.map .int))), some (I k), none, none, none, none] := rfl
  rw [e0]
  unfold rd_law_begun
  refine seq fun N hN => ?_
  walk_at "E"
  simp only [cutD_map, datas_map, ← List.map_append]
  walk_at "E"
  generalize hcs : (cutD ns (some k) none ++ cutD ns none (some k)) = cs
  have hl : cs.length ≤ 126 := by
    rw [← hcs, List.length_append]
    have a := cutD_len ns (some k) none
    have b := cutD_len ns none (some k)
    omega
  have hl2 : (List.map PyData.int (cutD ns (some k) none)).length + (List.map PyData.int (cutD ns none (some k))).length ≤ sizeLine := by
    have a := cutD_len ns (some k) none
    have b := cutD_len ns none (some k)
    rw [List.length_map, List.length_map, sizeL]
    omega
  simp only [List.length_map] at hl2 ⊢
  refine ⟨hl2, hN _ _ ?_⟩
  clear hN N
  -- great
  refine seq fun N hN => ?_
  walk_at "E"
  refine ⟨by simp only [List.length_map, sizeL]; omega, ?_⟩
  refine comp_fm (fun x => match x with | .d (.int i) => decide (10 ^ 18 ≤ i) | _ => false) id trivial _ _ ?_ ?_
  · intro x hx Q1 Q2 h
    rw [List.mem_map] at hx
    obtain ⟨y, hy, rfl⟩ := hx
    rw [List.mem_map] at hy
    obtain ⟨i, hi, rfl⟩ := hy
    simp only [wipeD]
    walk_at "E"
    simp only [id] at h
    simp only [CPow]
    exact ⟨by decide, h⟩
  · obtain ⟨gs, hgs⟩ : ∃ gs : List Int, (([] : List DV) ++ ((cs.map PyData.int).map DV.d |>.filter (fun x => match x with | .d (.int i) => decide (10 ^ 18 ≤ i) | _ => false)).map id) = (gs.map PyData.int).map DV.d := by
      refine ⟨cs.filter fun i => decide (10 ^ 18 ≤ i), ?_⟩
      rw [List.nil_append, List.map_id, List.map_map, List.map_map, List.filter_map]
      rfl
    rw [hgs]
    simp only [newL, datas_map]
    refine hN _ _ ?_
    clear hN N
    refine seq fun N hN => ?_
    walk_at "E"
    refine hN _ _ ?_
    clear hN N
    -- the seed
    refine seq fun N hN => ?_
    walk_at "E"
    refine for_by (fun _ ε s => s = st ∧ ∃ (seed : Int) (x : Option DV), 0 ≤ seed ∧ seed < 2 ^ 50 ∧ ε = [some (.d (.list (ns.map .int))), some (I k), some (.d (.list (cs.map .int))), some (.d (.list (gs.map .int))), some (I seed), x]) ⟨rfl, 71 + k, none, by omega, by omega, rfl⟩ (fun _ _ _ _ => trivial) ?_ ?_
    · rintro x ys ε s hx ⟨rfl, seed, y, s1, s2, rfl⟩ L hL
      rw [List.mem_map] at hx
      obtain ⟨z, hz, rfl⟩ := hx
      rw [List.mem_map] at hz
      obtain ⟨i, hi, rfl⟩ := hz
      walk_at "E"
      obtain ⟨r1, r2⟩ := fmod_range (i := seed * 48271 + i) (j := 2147483647) (by omega)
      exact ⟨cmul_l (by omega) (by omega), by omega, hL _ _ ⟨rfl, _, _, r1, by omega, rfl⟩⟩
    · rintro ε s ⟨rfl, seed, y, s1, s2, rfl⟩
      refine hN _ _ ?_
      clear hN N
      simp only [qRet, qDisp, qPairs]
      walk_at "E"
      have fin : ∀ l0 : Int, (∀ p, s p = none → Fg Q (.r p) (up s p (mkM l0 seed (cs ++ [53 * k + 11]) 0))) := fun l0 p hp =>
        ⟨_, Le.refl _, K p _ hp ⟨l0, seed, _, 0, up_same, by simp, by omega, by omega⟩ fun b hb => up_ne hb⟩
      have e1 : datas [DV.d (PyData.int (53 * k + 11))] = some [PyData.int (53 * k + 11)] := rfl
      have e2 : (List.map DV.d (List.map PyData.int cs) ++ List.map DV.d [PyData.int (53 * k + 11)]) = List.map DV.d (List.map PyData.int (cs ++ [53 * k + 11])) := by simp
      have e3 : datas [] = some [] := rfl
      simp only [e1, e2, e3, datas_map, eqv_nilL, shaped_nilL, shaped_LI, List.length_map, List.length_nil, List.length_singleton, true_and]
      refine ⟨by decide, ?_⟩
      by_cases hg : gs = []
      · simp only [hg, decide_true, Bool.not_true, Bool.false_eq_true, if_false]
        exact ⟨cmul_l (by omega) (by omega), by decide, by rw [sizeL]; omega, show 4 ≤ 15 by decide, fin 0⟩
      · simp only [hg, decide_false, Bool.not_false, if_true]
        cases gs with
        | nil => exact absurd rfl hg
        | cons g0 gr =>
          have e4 : atI (List.map DV.d (List.map PyData.int (g0 :: gr))) 0 = some (.d (.int g0)) := atI_map2 (j := 0) (by simp)
          simp only [e4]
          exact ⟨cmul_l (by omega) (by omega), by decide, by rw [sizeL]; omega, show 4 ≤ 15 by decide, fin g0⟩
end UC
end
section
set_option linter.all false
set_option maxRecDepth 100000
set_option maxHeartbeats 1000000
namespace UC
open PySem L2 DL RD
theorem draw {st : Sto} {a : Addr} {B : Nat} {below : Int} {Q : DV → Sto → Prop} (D : DrawSt st a B) (h1 : 1 ≤ below) (h2 : below < 2 ^ 30) (hB : B < 2 ^ 50)
    (k : ∀ (v : Int) st', 0 ≤ v → v < below → DrawSt st' a (B + 1) → (∀ b, b ≠ a → st' b = st b) → Q (I v) st') : sp_law_draw [.r a, I below] st Q := ⟨a, below, B, rfl, h1, h2, hB, D, k⟩
theorem begun {st : Sto} {ns : List Int} {k : Int} {Q : DV → Sto → Prop} (h1 : ns.length ≤ 63) (h2 : 0 ≤ k) (h3 : k < 2 ^ 40) (K : ∀ p st', DrawSt st' p 0 → (∀ b, b ≠ p → st' b = st b) → Q (.r p) st') : sp_law_begun [.d (.list (ns.map .int)), I k] st Q := ⟨ns, k, rfl, h1, h2, h3, fun p st' _ => K p st'⟩
/-- a comprehension whose elements draw, with the index -/
theorem comp_wordI {α : Type} (h : α → DV) {inv : Sto → Prop} {g : TDg} {te : TD} {ε : DL.Env} {Kc : List DV → Sto → Prop} (W : Nat → List DV → Sto → Prop) (hi : ∀ i acc st, W i acc st → inv st) (l : List α) (st : Sto) (w0 : W 0 [] st)
    (hx : ∀ i p acc st, l[i]? = some p → W i acc st → ∀ Q : DV → Sto → Prop, (∀ y s, W (i + 1) (acc ++ [y]) s → Q y s) → g (h p) ε st fun ε1 s1 => te ε1 s1 Q) (k : ∀ acc st, W l.length acc st → Kc acc st) : qComp inv g qYes te ε Kc (l.map h) [] st := by
  have : ∀ (r : List α) (i : Nat) acc st, l.drop i = r → i + r.length = l.length → W i acc st → qComp inv g qYes te ε Kc (r.map h) acc st := by
    intro r
    induction r with
    | nil =>
      intro i acc st hdr hlen w
      have e : i = l.length := by simpa using hlen
      subst e
      exact ⟨hi _ _ _ w, k _ _ w⟩
    | cons y r ih =>
      intro i acc st hdr hlen w
      have hx' : l[i]? = some y := by
        have := congrArg (fun z => z[0]?) hdr
        simp only [List.getElem?_drop, List.getElem?_cons_zero, Nat.add_zero] at this
        exact this
      refine ⟨hi _ _ _ w, ?_⟩
      refine hx i y acc st hx' w (fun z s3 => qComp inv g qYes te ε Kc (r.map h) (acc ++ [z]) s3) fun z s w' => ?_
      refine ih (i + 1) (acc ++ [z]) s ?_ (by simp only [List.length_cons] at hlen; omega) w'
      rw [← List.drop_drop, hdr]
      rfl
  exact this l 0 [] st rfl (by simp) w0
theorem range_some {n i p : Nat} (h : (List.range n)[i]? = some p) : p = i ∧ i < n := by
  by_cases hlt : i < n
  · rw [List.getElem?_range hlt] at h
    cases h
    exact ⟨rfl, hlt⟩
  · rw [List.getElem?_eq_none (by rw [List.length_range]; omega)] at h
    cases h
theorem kitB_tt : kitB "tuple" "tuple" = some true := by decide +kernel
theorem kitB_ll : kitB "list" "list" = some true := by decide +kernel
theorem kitB_dd : kitB "dict" "dict" = some true := by decide +kernel
theorem kitB_bb : kitB "bool" "bool" = some true := by decide +kernel
theorem kitB_ib : kitB "int" "bool" = some false := by decide +kernel
theorem kitB_ii : kitB "int" "int" = some true := by decide +kernel
theorem kitB_ss : kitB "str" "str" = some true := by decide +kernel
theorem kitB_tl : kitB "tuple" "list" = some false := by decide +kernel
theorem kitB_lt : kitB "list" "tuple" = some false := by decide +kernel
/-- reading of a cell -/
def gd (a : List Int) (j : Nat) : Int := a.getD j 0
theorem gd_eq {a : List Int} {j : Nat} (h : j < a.length) : a[j] = gd a j := by
  unfold gd
  rw [List.getD_eq_getElem?_getD, List.getElem?_eq_getElem h]
  rfl
theorem range_gd (a : List Int) : (List.range a.length).map (gd a) = a := by
  refine List.ext_getElem (by simp) fun i h1 h2 => ?_
  rw [List.getElem_map, List.getElem_range, gd_eq h2]
theorem zip_range {a b : List Int} {n : Nat} (ha : a.length = n) (hb : b.length = n) : a.zip b = (List.range n).map fun j => (gd a j, gd b j) := by
  refine List.ext_getElem (by simp; omega) fun i h1 h2 => ?_
  rw [List.getElem_map, List.getElem_range, List.getElem_zip, gd_eq, gd_eq]
theorem zipIdx_range (a : List Int) : a.zipIdx = (List.range a.length).map fun j => (gd a j, j) := by
  refine List.ext_getElem (by simp) fun i h1 h2 => ?_
  rw [List.getElem_map, List.getElem_range, List.getElem_zipIdx, Nat.zero_add, gd_eq]
theorem gd_mem {a : List Int} {j : Nat} (h : j < a.length) : gd a j ∈ a := by
  rw [← gd_eq h]
  exact List.getElem_mem h
theorem rngD0 (n : Nat) : rngD 0 n = (List.range n).map fun (j : Nat) => I (j : Int) := by
  unfold rngD
  refine List.map_congr_left fun j _ => ?_
  rw [Int.zero_add]
theorem gd_ext {a b : List Int} {n : Nat} (ha : a.length = n) (hb : b.length = n) : a = b ↔ ∀ j < n, gd a j = gd b j := by
  constructor
  · rintro rfl j hj
    rfl
  · intro h
    rw [← range_gd a, ← range_gd b, ha, hb]
    exact List.map_congr_left fun j hj => h j (List.mem_range.mp hj)
theorem gd_zw {f : Int → Int → Int} {a b : List Int} {n j : Nat} (ha : a.length = n) (hb : b.length = n) (hj : j < n) : gd (List.zipWith f a b) j = f (gd a j) (gd b j) := by
  rw [← gd_eq (by rw [List.length_zipWith]; omega), List.getElem_zipWith, gd_eq, gd_eq]
theorem gd_rep {n j : Nat} {x : Int} (hj : j < n) : gd (List.replicate n x) j = x := by
  rw [← gd_eq (by rw [List.length_replicate]; exact hj), List.getElem_replicate]
theorem len_zw {f : Int → Int → Int} {a b : List Int} {n : Nat} (ha : a.length = n) (hb : b.length = n) : (List.zipWith f a b).length = n := by
  rw [List.length_zipWith]; omega
theorem filter_nil {α : Type} {l : List α} {p : α → Bool} : l.filter p = [] ↔ ∀ x ∈ l, p x = false := by
  rw [List.filter_eq_nil_iff]
  constructor
  · intro h x hx
    exact Bool.eq_false_iff.mpr (h x hx)
  · intro h x hx e
    rw [h x hx] at e
    cases e
theorem flat_rep {α : Type} (n : Nat) (x : α) : (List.replicate n [x]).flatten = List.replicate n x := by
  induction n with
  | zero => rfl
  | succ n ih => rw [List.replicate_succ, List.flatten_cons, ih]; rfl
theorem rep_I (n : Nat) (x : Int) : mkT (List.replicate n [I x]).flatten = .d (TI (List.replicate n x)) := by
  rw [flat_rep, ← List.map_replicate (f := I), show (List.map I (List.replicate n x)) = (List.map PyData.int (List.replicate n x)).map DV.d by rw [List.map_map]; rfl, mkT_map]
theorem turns (l : Nat) (m M : Int) (h : 0 ≤ m) (hM : m ≤ M) : ∃ t : Nat, (if (if M < (l : Int) then M else (l : Int)) > m then (if M < (l : Int) then M else (l : Int)) else m) = (t : Int) ∧ (t : Int) ≤ M := by
  refine ⟨(if (if M < (l : Int) then M else (l : Int)) > m then (if M < (l : Int) then M else (l : Int)) else m).toNat, ?_, ?_⟩ <;> split <;> split <;> omega
theorem le_size4 : (0 + 1 + 1 + 1 + 1 ≤ sizeLine) = True := by decide
theorem I_eq (i : Int) : I i = .d (.int i) := rfl
theorem Bo_eq (i : Bool) : Bo i = .d (.bool i) := rfl
theorem ints_dv {α : Type} (f : α → Int) (l : List α) : List.map (fun x => I (f x)) l = ((l.map f).map PyData.int).map DV.d := by
  rw [List.map_map, List.map_map]
  rfl
theorem ints_dv0 {α : Type} (f : α → Int) (l : List α) : [] ++ List.map (fun x => I (f x)) l = ((l.map f).map PyData.int).map DV.d := by
  rw [List.nil_append, ints_dv]
end UC
end
section
set_option linter.all false
set_option maxRecDepth 100000
set_option maxHeartbeats 1000000
namespace UC
open PySem L2 DL RD
def divB (a b : List Int) : Bool := (a.zip b).all fun p => decide (p.1 ≤ p.2)
def lcmL (a b : List Int) : List Int := List.zipWith max a b
def mulL (a b : List Int) : List Int := List.zipWith (· + ·) a b
def cutL (a b : List Int) : List Int := List.zipWith (fun x y => max (x - y) 0) a b
/-- a monomial of n variables, its exponents at most w -/
def Mon (n : Nat) (w : Int) (a : List Int) : Prop := a.length = n ∧ ∀ x ∈ a, 0 ≤ x ∧ x ≤ w
theorem Mon.mono {n : Nat} {w w' : Int} {a : List Int} (h : Mon n w a) (hw : w ≤ w') : Mon n w' a := ⟨h.1, fun x hx => ⟨(h.2 x hx).1, Int.le_trans (h.2 x hx).2 hw⟩⟩
theorem Mon.bd {n : Nat} {w : Int} {a : List Int} (h : Mon n w a) : TS.Bd (w + 1) a := fun x hx => ⟨(h.2 x hx).1, by have := (h.2 x hx).2; omega⟩
theorem divB_iff {a b : List Int} {n : Nat} (ha : a.length = n) (hb : b.length = n) : divB a b = true ↔ ∀ j < n, gd a j ≤ gd b j := by
  unfold divB
  rw [zip_range ha hb, List.all_eq_true]
  constructor
  · intro h j hj
    exact of_decide_eq_true (h _ (List.mem_map.mpr ⟨j, List.mem_range.mpr hj, rfl⟩))
  · intro h x hx
    obtain ⟨j, hj, rfl⟩ := List.mem_map.mp hx
    exact decide_eq_true (h j (List.mem_range.mp hj))
theorem divB_refl (a : List Int) : divB a a = true := (divB_iff rfl rfl).mpr fun j _ => Int.le_refl _
theorem divB_trans {a b c : List Int} {n : Nat} (ha : a.length = n) (hb : b.length = n) (hc : c.length = n) (h1 : divB a b = true) (h2 : divB b c = true) : divB a c = true :=
  (divB_iff ha hc).mpr fun j hj => Int.le_trans ((divB_iff ha hb).mp h1 j hj) ((divB_iff hb hc).mp h2 j hj)
theorem divB_anti {a b : List Int} {n : Nat} (ha : a.length = n) (hb : b.length = n) (h1 : divB a b = true) (h2 : divB b a = true) : a = b :=
  (gd_ext ha hb).mpr fun j hj => Int.le_antisymm ((divB_iff ha hb).mp h1 j hj) ((divB_iff hb ha).mp h2 j hj)
theorem divB_lex : ∀ {a b : List Int}, a.length = b.length → divB a b = true → a = b ∨ lexL a b = true
  | [], [], _, _ => .inl rfl
  | x :: a, y :: b, hl, h => by
    simp only [divB, List.zip_cons_cons, List.all_cons, Bool.and_eq_true, decide_eq_true_eq] at h
    have hl' : a.length = b.length := by simpa using hl
    simp only [lexL, Bool.or_eq_true, Bool.and_eq_true, decide_eq_true_eq, List.cons.injEq]
    by_cases e : x = y
    · rcases divB_lex hl' h.2 with k | k
      · exact .inl ⟨e, k⟩
      · exact .inr (.inr ⟨e, k⟩)
    · exact .inr (.inl (by omega))
/-- those that no other one divides, sorted -/
def minL (S : List (List Int)) : List (List Int) := (sortU S).filter fun a => decide ((sortU S).filter (fun b => decide (b ≠ a) && divB b a) = [])
def stepL (acc : List (List Int)) (m : List Int) : List (List Int) := if (acc.map fun o => divB o m).any id = true then acc else acc ++ [m]
structure Mins (S R : List (List Int)) : Prop where
  ris : RisL R
  sub : ∀ r ∈ R, r ∈ S
  cov : ∀ s ∈ S, ∃ r ∈ R, divB r s = true
  anti : ∀ r ∈ R, ∀ r' ∈ R, divB r r' = true → r = r'
theorem mins_minL {S : List (List Int)} {n : Nat} (hS : ∀ s ∈ S, s.length = n) : Mins S (minL S) := by
  have hq : ∀ s ∈ sortU S, s.length = n := fun s hs => hS s (mem_sortU.mp hs)
  refine ⟨(ris_sortU S).sublist List.filter_sublist, fun r hr => mem_sortU.mp (List.mem_filter.mp hr).1, fun s hs => ?_, fun r hr r' hr' h => ?_⟩
  · have hT : RisL ((sortU S).filter fun b => divB b s) := (ris_sortU S).sublist List.filter_sublist
    have hs' : s ∈ (sortU S).filter fun b => divB b s := List.mem_filter.mpr ⟨mem_sortU.mpr hs, divB_refl s⟩
    cases e : (sortU S).filter (fun b => divB b s) with
    | nil => rw [e] at hs'; cases hs'
    | cons r T =>
      have hr : r ∈ (sortU S).filter fun b => divB b s := by rw [e]; exact List.mem_cons_self
      obtain ⟨r1, r2⟩ := List.mem_filter.mp hr
      refine ⟨r, List.mem_filter.mpr ⟨r1, decide_eq_true ?_⟩, r2⟩
      rw [List.filter_eq_nil_iff]
      intro b hb hh
      simp only [Bool.and_eq_true, decide_eq_true_eq] at hh
      have hb2 : b ∈ (sortU S).filter fun b => divB b s := List.mem_filter.mpr ⟨hb, divB_trans (hq b hb) (hq r r1) (hS s hs) hh.2 r2⟩
      rw [e] at hb2 hT
      rcases List.mem_cons.mp hb2 with z | z
      · exact hh.1 z
      · have k1 := (List.pairwise_cons.mp hT).1 b z
        rcases divB_lex ((hq b hb).trans (hq r r1).symm) hh.2 with k | k
        · exact hh.1 k
        · have := lexL_tr k1 k
          rw [lexL_irr] at this
          cases this
  · obtain ⟨a1, a2⟩ := List.mem_filter.mp hr
    obtain ⟨b1, b2⟩ := List.mem_filter.mp hr'
    have := List.filter_eq_nil_iff.mp (of_decide_eq_true b2) r a1
    simp only [Bool.and_eq_true, decide_eq_true_eq, not_and] at this
    exact Classical.byContradiction fun hne => this hne h
theorem mins_fold {n : Nat} : ∀ (post acc pre : List (List Int)), RisL (pre ++ post) → (∀ s ∈ pre ++ post, s.length = n) → Mins pre acc → Mins (pre ++ post) (post.foldl stepL acc)
  | [], acc, pre, _, _, h => by rw [List.append_nil]; exact h
  | m :: post, acc, pre, hr, hl, h => by
    have e : pre ++ m :: post = (pre ++ [m]) ++ post := by simp
    have hm : m.length = n := hl m (by simp)
    rw [e] at hr hl ⊢
    refine mins_fold post (stepL acc m) (pre ++ [m]) hr hl ?_
    have hlex : ∀ r ∈ acc, lexL r m = true := fun r hr' => by
      have := (List.pairwise_append.mp hr).1
      exact (List.pairwise_append.mp this).2.2 r (h.sub r hr') m (List.mem_singleton.mpr rfl)
    have hla : ∀ r ∈ acc, r.length = n := fun r hr' => hl r (List.mem_append_left _ (List.mem_append_left _ (h.sub r hr')))
    unfold stepL
    by_cases ha : (acc.map fun o => divB o m).any id = true
    · rw [if_pos ha]
      refine ⟨h.ris, fun r hr' => List.mem_append_left _ (h.sub r hr'), fun s hs => ?_, h.anti⟩
      rcases List.mem_append.mp hs with hs | hs
      · exact h.cov s hs
      · rw [List.mem_singleton.mp hs]
        obtain ⟨b, hb, hb2⟩ := List.any_eq_true.mp ha
        obtain ⟨r, hr', rfl⟩ := List.mem_map.mp hb
        exact ⟨r, hr', hb2⟩
    · rw [if_neg ha]
      have hno : ∀ r ∈ acc, divB r m = false := fun r hr' => Bool.eq_false_iff.mpr fun z => ha (List.any_eq_true.mpr ⟨true, List.mem_map.mpr ⟨r, hr', z⟩, rfl⟩)
      refine ⟨List.pairwise_append.mpr ⟨h.ris, List.pairwise_singleton _ _, fun a ha b hb => by rw [List.mem_singleton.mp hb]; exact hlex a ha⟩, fun r hr' => ?_, fun s hs => ?_, fun r hr' r' hr'' hd => ?_⟩
      · rcases List.mem_append.mp hr' with z | z
        · exact List.mem_append_left _ (h.sub r z)
        · exact List.mem_append_right _ z
      · rcases List.mem_append.mp hs with hs | hs
        · obtain ⟨r, h1, h2⟩ := h.cov s hs
          exact ⟨r, List.mem_append_left _ h1, h2⟩
        · exact ⟨s, List.mem_append_right _ hs, divB_refl s⟩
      · rcases List.mem_append.mp hr' with z | z <;> rcases List.mem_append.mp hr'' with z' | z'
        · exact h.anti r z r' z' hd
        · rw [List.mem_singleton.mp z', hno r z] at hd
          cases hd
        · have zz := List.mem_singleton.mp z
          subst zz
          rcases divB_lex (hm.trans (hla r' z').symm) hd with k | k
          · exact k
          · have := lexL_tr k (hlex r' z')
            rw [lexL_irr] at this
            cases this
        · rw [List.mem_singleton.mp z, List.mem_singleton.mp z']
theorem mins_uniq {S R S' R' : List (List Int)} {n : Nat} (hS : ∀ s ∈ S, s.length = n) (hS' : ∀ s ∈ S', s.length = n) (h : Mins S R) (h' : Mins S' R') (c : ∀ s ∈ S, ∃ s' ∈ S', divB s' s = true) (c' : ∀ s ∈ S', ∃ s' ∈ S, divB s' s = true) : R = R' := by
  have key : ∀ {S R S' R' : List (List Int)}, (∀ s ∈ S, s.length = n) → (∀ s ∈ S', s.length = n) → Mins S R → Mins S' R' → (∀ s ∈ S, ∃ s' ∈ S', divB s' s = true) → (∀ s ∈ S', ∃ s' ∈ S, divB s' s = true) → ∀ r ∈ R, r ∈ R' := by
    intro S R S' R' hS hS' h h' c c' r hr
    obtain ⟨s', hs', d1⟩ := c r (h.sub r hr)
    obtain ⟨r', hr', d2⟩ := h'.cov s' hs'
    obtain ⟨s, hs, d3⟩ := c' r' (h'.sub r' hr')
    obtain ⟨q, hq, d4⟩ := h.cov s hs
    have lr := hS r (h.sub r hr)
    have ls' := hS' s' hs'
    have lr' := hS' r' (h'.sub r' hr')
    have ls := hS s hs
    have lq := hS q (h.sub q hq)
    have d5 : divB q r' = true := divB_trans lq ls lr' d4 d3
    have d6 : divB r' r = true := divB_trans lr' ls' lr d2 d1
    have e : q = r := h.anti q hq r hr (divB_trans lq lr' lr d5 d6)
    subst e
    rw [divB_anti lr lr' d5 d6]
    exact hr'
  exact ris_eq h.ris h'.ris fun x => ⟨key hS hS' h h' c c' x, key hS' hS h' h c' c x⟩
theorem fold_min {S : List (List Int)} {n : Nat} (hS : ∀ s ∈ S, s.length = n) : (sortU S).foldl stepL [] = minL S := by
  have hq : ∀ s ∈ sortU S, s.length = n := fun s hs => hS s (mem_sortU.mp hs)
  have h := mins_fold (n := n) (sortU S) [] [] (ris_sortU S) hq ⟨List.Pairwise.nil, (fun r hr => nomatch hr), (fun s hs => nomatch hs), (fun r hr => nomatch hr)⟩
  exact mins_uniq hq hS h (mins_minL hS) (fun s hs => ⟨s, mem_sortU.mp hs, divB_refl s⟩) fun s hs => ⟨s, mem_sortU.mpr hs, divB_refl s⟩
theorem min_cong {S S' : List (List Int)} {n : Nat} (hS : ∀ s ∈ S, s.length = n) (hS' : ∀ s ∈ S', s.length = n) (c : ∀ s ∈ S, ∃ s' ∈ S', divB s' s = true) (c' : ∀ s ∈ S', ∃ s' ∈ S, divB s' s = true) : minL S = minL S' := mins_uniq hS hS' (mins_minL hS) (mins_minL hS') c c'
theorem min_sub {S : List (List Int)} : ∀ r ∈ minL S, r ∈ S := fun r hr => mem_sortU.mp (List.mem_filter.mp hr).1
theorem min_idem {S : List (List Int)} {n : Nat} (hS : ∀ s ∈ S, s.length = n) : minL (minL S) = minL S :=
  min_cong (fun s hs => hS s (min_sub s hs)) hS (fun s hs => ⟨s, min_sub s hs, divB_refl s⟩) (mins_minL hS).cov
theorem min_len (S : List (List Int)) : (minL S).length ≤ S.length := Nat.le_trans (List.length_filter_le _ _) (sortU_len S)
def inL (L : List (List Int)) (c : List Int) : Bool := L.any fun g => divB g c
theorem inL_iff {L : List (List Int)} {c : List Int} : inL L c = true ↔ ∃ g ∈ L, divB g c = true := List.any_eq_true
theorem tints_TI (ts : List (List Int)) : tints ((ts.map TI).map DV.d) = some ts := tints_map ts
theorem dv_TI (l : List (List Int)) : (l.map fun a => DV.d (.tuple (a.map .int))) = (l.map TI).map DV.d := by
  rw [List.map_map]
  rfl
theorem tis_dv0 (l : List (List Int)) : [] ++ (l.map fun a => DV.d (TI a)) = (l.map TI).map DV.d := dv_TI l
theorem atI_0 {α : Type} (x : α) (l : List α) : atI (x :: l) 0 = some x := atI_nat (j := 0) rfl
theorem atI_1 {α : Type} (x y : α) (l : List α) : atI (x :: y :: l) 1 = some y := atI_nat (j := 1) rfl
theorem atI_2 {α : Type} (x y z : α) (l : List α) : atI (x :: y :: z :: l) 2 = some z := atI_nat (j := 2) rfl
theorem mk_app (a b : List PyData) : mkT (a.map .d ++ b.map .d) = .d (.tuple (a ++ b)) := by
  rw [← List.map_append, mkT_map]
theorem mk_appT (a b : List (List Int)) : mkT ((a.map TI).map .d ++ (b.map TI).map .d) = .d (TT (a ++ b)) := by
  rw [mk_app, ← List.map_append]
theorem mk_snocI (a : List Int) (k : Int) : mkT ((a.map PyData.int).map .d ++ [.d (.int k)]) = .d (TI (a ++ [k])) := by
  have := mk_app (a.map .int) [.int k]
  rw [show TI (a ++ [k]) = .tuple (a.map .int ++ [.int k]) by simp [TI], ← this]
  rfl
@[reducible] def idl (n : Nat) (l : List (List Int)) : PyData := .tuple [.int n, TT l]
theorem size_of {n m : Nat} (h : n ≤ m) (hm : m ≤ 100000) : n ≤ sizeLine := by rw [sizeL]; omega
theorem sitems_le {st st' : Sto} {x : DV} {l : List DV} (h : sitems st x = some l) (hl : Le st st') : sitems st' x = some l := by
  cases x with
  | d z => cases z <;> exact h
  | t ys => exact h
  | r a =>
    simp only [sitems, titems, litems] at h ⊢
    cases e : st a with
    | none => rw [e] at h; cases h
    | some m => rw [hl a m e]; rw [e] at h; exact h
theorem le_up {st st' : Sto} {p : Addr} (h0 : st p = none) (h : ∀ b, b ≠ p → st' b = st b) : Le st st' := fun a m e => by
  rw [h a (fun z => by rw [z, h0] at e; cases e)]
  exact e
theorem le_up1 {st : Sto} {p : Addr} {m : MO} (h0 : st p = none) : Le st (up st p m) := le_up h0 fun b hb => up_ne hb
theorem src_of2 {st : Sto} {x : DV} {l : List DV} (h : sitems st x = some l) : ∃ inv : Sto → Prop, seqSrc st x = some (l, inv) ∧ ∀ s', sitems s' x = some l → inv s' := by
  cases x with
  | d z =>
    cases z with
    | tuple ds => cases h; exact ⟨_, rfl, fun _ _ => trivial⟩
    | list ds => cases h; exact ⟨_, rfl, fun _ _ => trivial⟩
    | _ => cases h
  | t ys => cases h; exact ⟨_, rfl, fun _ _ => trivial⟩
  | r a =>
    have key : ∀ s', sitems s' (.r a) = some l → s' a = some (.lst l) := fun s' h => by
      simp only [sitems, titems, litems] at h
      cases e : s' a with
      | none => rw [e] at h; cases h
      | some m =>
        rw [e] at h
        cases m with
        | lst xs => cases h; rfl
        | _ => cases h
    exact ⟨fun s' => s' a = some (.lst l), by simp only [seqSrc, titems, lsrc, key st h], key⟩
theorem fg_le {Q : DV → Sto → Prop} {x : DV} {st st' : Sto} (hl : Le st st') (h : Q x st) : Fg Q x st' := ⟨st, hl, h⟩
end UC
end
section
set_option linter.all false
set_option maxRecDepth 100000
set_option maxHeartbeats 1000000
open PySem L2 DL
local macro_rules | `(tactic| walk_at "E") => `(tactic| (try simp only [qAsg, qRet, qDrop, qIfS, qTest, qAndT, qOrT, qNotT, qAndV, qOrV, qNotV, qIf, qOp, qUn, qChain, onB, qv, qc, qgN, qgT, qgCons, qgNil, qCons, qNil, qTup, qLst, qPar, qPar3, qAug, qCB, qCall, qLen, qTupleC, qListC, qMax2, qMin2, qIntC, qSum, qAny, qAll, qIsi, tyName, qAdd, qSub, qMul, qFdiv, qMod, qPow, qI2, qCmpI, qEq, qNe, qLt, qLe, qGt, qGe, qNeg, qIx, qDGet, qDIn, qDPut, qSl, qPart, qNoPart, qNext, qFor, qiSeq, qiRng1, qiRng2, qiZip, qiEnum, qLc, seqSrc, lsrc, titems, litems, sitems, fz, newL, List.getElem?_cons_zero, List.getElem?_cons_succ, List.set_cons_zero, List.set_cons_succ, if_true, if_false, Bool.false_eq_true, ite_true, ite_false, up_same, reduceIte, decide_true, decide_false, true_and, and_true]))
namespace UC
open PySem L2 DL RD
def suppL (a : List Int) : List Int := (a.zipIdx.filter fun p => decide (0 < p.1)).map fun p => (p.2 : Int)
def sp_support_of : SpD := fun xs st Q => ∃ a : List Int, xs = [.d (TI a)] ∧ a.length ≤ 1000 ∧ Q (.d (TI (suppL a))) st
def sp_divides : SpD := fun xs st Q => ∃ a b : List Int, xs = [.d (TI a), .d (TI b)] ∧ Q (Bo (divB a b)) st
def spZ (f : List Int → List Int → List Int) : SpD := fun xs st Q => ∃ a b : List Int, xs = [.d (TI a), .d (TI b)] ∧ a.length ≤ 1000 ∧ Q (.d (TI (f a b))) st
theorem len_support_of : ∀ xs st Q, sp_support_of xs st Q → xs.length = 1 := by rintro xs st Q ⟨a, rfl, _⟩; rfl
theorem len_divides : ∀ xs st Q, sp_divides xs st Q → xs.length = 2 := by rintro xs st Q ⟨a, b, rfl, _⟩; rfl
theorem lenZ {f : List Int → List Int → List Int} : ∀ xs st Q, spZ f xs st Q → xs.length = 2 := by rintro xs st Q ⟨a, b, rfl, _⟩; rfl
/-- the items of a zip of two monomials -/
theorem zipD_ints : ∀ a b : List Int, zipD ((a.map PyData.int).map DV.d) ((b.map PyData.int).map DV.d) = (a.zip b).map fun p => DV.d (.tuple [.int p.1, .int p.2])
  | [], _ => rfl
  | _ :: _, [] => rfl
  | x :: a, y :: b => by
    have ih := zipD_ints a b
    unfold zipD at ih ⊢
    rw [List.map_cons, List.map_cons, List.map_cons, List.map_cons, List.zipWith_cons_cons, ih, List.zip_cons_cons, List.map_cons]
    rfl
theorem semZ_of {f : List Int → List Int → List Int} {fe : Int → Int → Int} {te : TD} (hf : f = List.zipWith fe)
    (he : ∀ (a b : DV) (x y : Int) (st : Sto) (Q : DV → Sto → Prop), Q (I (fe x y)) st → te [some a, some b, some (I x), some (I y)] st Q) :
    ∀ xs st Q, spZ f xs st Q → (qRet (qCB qTupleC (qCons (qLc false (qiZip (qCons (qv 0) (qCons (qv 1) qNil))) (qgT 2 (qgCons (qgN 2) (qgCons (qgN 3) qgNil))) qYes te [2, 3]) qNil))) { nx := fun _ st' => Fg Q (.d .none) st', rt := Fg Q } (startD 4 xs) st := by
  rintro xs st Q ⟨a, b, rfl, hl, K⟩
  have e0 : startD 4 [.d (TI a), .d (TI b)] = [some (.d (TI a)), some (.d (TI b)), none, none] := rfl
  rw [e0]
  walk_at "E"
  rw [zipD_ints]
  refine ⟨by rw [List.length_map, List.length_zip, sizeL]; omega, ?_⟩
  refine comp_mapT _ (fun p => I (fe p.1 p.2)) trivial _ _ ?_ ?_
  · intro p hp Q1 h
    simp only [wipeD]
    walk_at "E"
    simp only [List.map_cons, List.map_nil, List.length_cons, List.length_nil]
    walk_at "E"
    exact he _ _ _ _ _ _ h
  · have e1 : [] ++ ((a.zip b).map fun p => I (fe p.1 p.2)) = ((f a b).map PyData.int).map DV.d := by
      rw [hf, List.nil_append, ← List.map_uncurry_zip_eq_zipWith, List.map_map, List.map_map]
      rfl
    rw [e1]
    simp only [datas_map]
    walk_at "E"
    rw [mkT_map]
    exact fg_ret K
theorem enumD_ints (f : Int → PyData) : ∀ (a : List Int), enumD ((a.map f).map DV.d) = a.zipIdx.map fun p => DV.d (.tuple [.int p.2, f p.1]) := by
  intro a
  unfold enumD
  rw [List.map_map, List.mapIdx_eq_zipIdx_map, List.zipIdx_map, List.map_map]
  rfl
theorem sem_support_of : ∀ xs st Q, sp_support_of xs st Q → rd_support_of { nx := fun _ st' => Fg Q (.d .none) st', rt := Fg Q } (startD 3 xs) st := by
  rintro xs st Q ⟨a, rfl, hl, K⟩
  have e0 : startD 3 [.d (TI a)] = [some (.d (TI a)), none, none] := rfl
  rw [e0]
  unfold rd_support_of
  walk_at "E"
  rw [enumD_ints]
  refine ⟨by rw [List.length_map, List.length_zipIdx, sizeL]; omega, ?_⟩
  refine comp_fmT _ (fun p : Int × Nat => decide (0 < p.1)) (fun p => I (p.2 : Int)) trivial _ _ ?_ ?_
  · intro p hp Q1 Q2 h
    simp only [wipeD]
    walk_at "E"
    simp only [List.map_cons, List.map_nil, List.length_cons, List.length_nil]
    walk_at "E"
    by_cases h0 : 0 < p.1
    · simp only [h0, decide_true, if_true] at h ⊢
      walk_at "E"
      exact h
    · simp only [h0, decide_false] at h ⊢
      exact h
  · have e1 : [] ++ ((a.zipIdx.filter fun p => decide (0 < p.1)).map fun p => I (p.2 : Int)) = ((suppL a).map PyData.int).map DV.d := by
      unfold suppL
      rw [List.nil_append, List.map_map, List.map_map]
      rfl
    rw [e1]
    simp only [datas_map]
    walk_at "E"
    rw [mkT_map]
    exact fg_ret K
theorem sem_divides : ∀ xs st Q, sp_divides xs st Q → rd_divides { nx := fun _ st' => Fg Q (.d .none) st', rt := Fg Q } (startD 4 xs) st := by
  rintro xs st Q ⟨a, b, rfl, K⟩
  have e0 : startD 4 [.d (TI a), .d (TI b)] = [some (.d (TI a)), some (.d (TI b)), none, none] := rfl
  rw [e0]
  unfold rd_divides
  refine seq fun N hN => ?_
  walk_at "E"
  rw [zipD_ints]
  refine for_byT _ (fun i ε s => s = st ∧ (((a.zip b).take i).all fun p => decide (p.1 ≤ p.2)) = true ∧ ∃ x y, ε = [some (.d (TI a)), some (.d (TI b)), x, y]) ⟨rfl, rfl, _, _, rfl⟩ (fun _ _ _ _ => trivial) ?_ ?_
  · rintro i p ε s hp ⟨rfl, ha, x, y, rfl⟩ L hL
    walk_at "E"
    simp only [List.map_cons, List.map_nil, List.length_cons, List.length_nil]
    walk_at "E"
    by_cases h : p.2 < p.1
    · simp only [h, decide_true, if_true]
      refine fg_ret ?_
      have e : divB a b = false := by
        unfold divB
        rw [List.all_eq_false]
        exact ⟨p, List.mem_of_getElem? hp, by simp; omega⟩
      rw [e] at K
      exact K
    · simp only [h, decide_false]
      walk_at "E"
      refine hL _ _ ⟨rfl, ?_, _, _, rfl⟩
      rw [List.take_succ, hp, List.all_append, ha]
      simp
      omega
  · rintro ε s ⟨rfl, ha, x, y, rfl⟩
    refine hN _ _ ?_
    walk_at "E"
    refine fg_ret ?_
    rw [List.take_length] at ha
    have e : divB a b = true := ha
    rw [e] at K
    exact K
end UC
end
section
set_option linter.all false
set_option maxRecDepth 100000
set_option maxHeartbeats 1000000
open PySem L2 DL RD UC
local macro_rules | `(tactic| walk_at "E") => `(tactic| (try simp only [qAsg, qRet, qDrop, qIfS, qTest, qAndT, qOrT, qNotT, qAndV, qOrV, qNotV, qIf, qOp, qUn, qChain, onB, qv, qc, qgN, qgT, qgCons, qgNil, qCons, qNil, qTup, qLst, qPar, qPar3, qAug, qCB, qCall, qLen, qTupleC, qListC, qMax2, qMin2, qIntC, qSum, qAny, qAll, qIsi, tyName, qAdd, qSub, qMul, qFdiv, qMod, qPow, qI2, qCmpI, qEq, qNe, qLt, qLe, qGt, qGe, qNeg, qIx, qDGet, qDIn, qDPut, qSl, qPart, qNoPart, qNext, qFor, qiSeq, qiRng1, qiRng2, qiZip, qiEnum, qLc, seqSrc, lsrc, titems, litems, sitems, fz, newL, List.getElem?_cons_zero, List.getElem?_cons_succ, List.set_cons_zero, List.set_cons_succ, if_true, if_false, Bool.false_eq_true, ite_true, ite_false, up_same, reduceIte, decide_true, decide_false, true_and, and_true]))
local macro_rules | `(tactic| walk_at "D") => `(tactic| (try simp only [qAsg, qRet, qDrop, qIfS, qTest, qAndT, qOrT, qNotT, qAndV, qOrV, qNotV, qIf, qOp, qUn, qChain, onB, qv, qc, qgN, qgT, qgCons, qgNil, qCons, qNil, qTup, qLst, qPar, qPar3, qAug, qCB, qCall, qLen, qTupleC, qListC, qMax2, qMin2, qIntC, qSum, qAny, qAll, qIsi, tyName, qAdd, qSub, qMul, qFdiv, qMod, qPow, qI2, qCmpI, qEq, qNe, qLt, qLe, qGt, qGe, qNeg, qIx, qDGet, qDIn, qDPut, qSl, qPart, qNoPart, qNext, qFor, qiSeq, qiRng1, qiRng2, qiZip, qiEnum, qLc, seqSrc, lsrc, titems, litems, sitems, fz, newL, List.getElem?_cons_zero, List.getElem?_cons_succ, List.set_cons_zero, List.set_cons_succ, if_true, if_false, Bool.false_eq_true, ite_true, ite_false, up_same, reduceIte, decide_true, decide_false, true_and, and_true, eqv_int, eqv_bool, eqv_TI, eqv_LI, eqv_TT, eqv_LT, eqv_nilL, eqv_nilT, shaped_TI, shaped_LI, shaped_TT, shaped_LT, shaped_int, shaped_bool, shaped_nilL, shaped_nilT, dints_map2, dbools_map2, datas_map, mkT_map, mkT_0, mkT_1, mkT_2, mkT_3, List.length_map, List.length_cons, List.length_nil, List.length_append, List.map_cons, List.map_nil, wipeD, Bool.not_true, Bool.not_false, eq_self, not_true_eq_false, not_false_eq_true, kitB_tt, kitB_ll, kitB_dd, kitB_bb, kitB_ib, kitB_ii, kitB_ss, kitB_tl, kitB_lt, Function.comp, datas, Option.map_some, List.cons_append, List.nil_append, CPow, le_size4, Int.toNat_natCast, rngD0, I_eq, Bo_eq, BS.qSortB, in_IT, in_IL, in_TT, in_TL, qNotN, qIsN, qSortD, qListRg, qDispT, keyX_TI, qGet, qiItems, qLockE, qLockS, qPop, qMaxDf, qLc2, qMax1, qMin1, qAppend, qExtend, tints_TI, dv_TI, Option.bind_some, qRetN, atI_0, atI_1, atI_2, mk_appT, mk_snocI, idl, rep_I, Option.map_none, qComb, qGcd]))
local macro_rules | `(tactic| walk_at "F") => `(tactic| (try simp only [qAsg, qRet, qDrop, qIfS, qTest, qAndT, qOrT, qNotT, qAndV, qOrV, qNotV, qIf, qOp, qUn, qChain, onB, qv, qc, qgN, qgT, qgCons, qgNil, qCons, qNil, qTup, qLst, qPar, qPar3, qAug, qCB, qCall, qLen, qTupleC, qListC, qMax2, qMin2, qIntC, qSum, qAny, qAll, qIsi, tyName, qAdd, qSub, qMul, qFdiv, qMod, qPow, qI2, qCmpI, qEq, qNe, qLt, qLe, qGt, qGe, qNeg, qIx, qDGet, qDIn, qDPut, qSl, qPart, qNoPart, qNext, qFor, qiRng1, qiRng2, qiZip, qiEnum, qLc, fz, newL, List.getElem?_cons_zero, List.getElem?_cons_succ, List.set_cons_zero, List.set_cons_succ, if_true, if_false, Bool.false_eq_true, ite_true, ite_false, up_same, reduceIte, decide_true, decide_false, true_and, and_true, eqv_int, eqv_bool, eqv_TI, eqv_LI, eqv_TT, eqv_LT, eqv_nilL, eqv_nilT, shaped_TI, shaped_LI, shaped_TT, shaped_LT, shaped_int, shaped_bool, shaped_nilL, shaped_nilT, dints_map2, dbools_map2, datas_map, mkT_map, mkT_0, mkT_1, mkT_2, mkT_3, List.length_map, List.length_cons, List.length_nil, List.length_append, List.map_cons, List.map_nil, wipeD, Bool.not_true, Bool.not_false, eq_self, not_true_eq_false, not_false_eq_true, kitB_tt, kitB_ll, kitB_dd, kitB_bb, kitB_ib, kitB_ii, kitB_ss, kitB_tl, kitB_lt, Function.comp, datas, Option.map_some, List.cons_append, List.nil_append, CPow, le_size4, Int.toNat_natCast, rngD0, I_eq, Bo_eq, BS.qSortB, in_IT, in_IL, in_TT, in_TL, qNotN, qIsN, qSortD, qListRg, qDispT, keyX_TI, qGet, qiItems, qLockE, qLockS, qPop, qMaxDf, qLc2, qMax1, qMin1, qAppend, qExtend, tints_TI, dv_TI, Option.bind_some, qRetN, atI_0, atI_1, atI_2, mk_appT, mk_snocI, idl, rep_I, Option.map_none, qComb, qGcd]))
namespace UC
open PySem L2 DL RD
/-- what may be sorted as a set -/
def OkS (n : Nat) (w : Int) (ts : List (List Int)) : Prop := 1 ≤ n ∧ n ≤ 1000 ∧ ts.length < 4000 ∧ ∀ t ∈ ts, Mon n w t
theorem OkS.q {n : Nat} {w : Int} {ts : List (List Int)} (h : OkS n w ts) : ts.length < 4000 ∧ ∀ t ∈ ts, t ≠ [] := ⟨h.2.2.1, fun t ht e => by
  have h1 := (h.2.2.2 t ht).1
  have h2 := h.1
  rw [e] at h1
  simp at h1
  omega⟩
theorem OkS.len {n : Nat} {w : Int} {ts : List (List Int)} (h : OkS n w ts) : ∀ t ∈ ts, t.length = n := fun t ht => (h.2.2.2 t ht).1
/-- the least generators of an ideal -/
def Idl (n : Nat) (w : Int) (cnt : Nat) (L : List (List Int)) : Prop := minL L = L ∧ L.length ≤ cnt ∧ ∀ t ∈ L, Mon n w t
/-- the program's own -/
def sp_least_ones : SpD := fun xs st Q => ∃ (x : DV) (ts : List (List Int)) (n : Nat) (w : Int), xs = [x] ∧ sitems st x = some ((ts.map TI).map .d) ∧ OkS n w ts ∧
  ∀ p st', st p = none → st' p = some (.lst (((minL ts).map TI).map .d)) → (∀ b, b ≠ p → st' b = st b) → Q (.r p) st'
theorem len_least_ones : ∀ xs st Q, sp_least_ones xs st Q → xs.length = 1 := by rintro xs st Q ⟨a, ts, n, w, rfl, _⟩; rfl
theorem sem_least_ones : ∀ xs st Q, sp_least_ones xs st Q → rd_least_ones sp_divides { nx := fun _ st' => Fg Q (.d .none) st', rt := Fg Q } (startD 4 xs) st := by
  rintro xs st Q ⟨x, ts, n, w, rfl, hx, ok, K⟩
  have e0 : startD 4 [x] = [some x, none, none, none] := rfl
  rw [e0]
  unfold rd_least_ones
  have hl : (sortU ts).length < 4000 := Nat.lt_of_le_of_lt (sortU_len ts) ok.q.1
  have hacc : ∀ i, (((sortU ts).take i).foldl stepL []).length ≤ i := by
    have : ∀ (l acc : List (List Int)), (l.foldl stepL acc).length ≤ acc.length + l.length := by
      intro l
      induction l with
      | nil => exact fun acc => Nat.le_refl _
      | cons m l ih =>
        intro acc
        refine Nat.le_trans (ih (stepL acc m)) ?_
        unfold stepL
        split
        · simp <;> omega
        · simp <;> omega
    intro i
    refine Nat.le_trans (this _ []) ?_
    simp only [List.length_nil, List.length_take]
    omega
  refine seq fun N hN => ?_
  walk_at "D"
  refine ⟨by decide, fun p hp => hN _ _ ?_⟩; clear hN N
  refine seq fun N hN => ?_
  walk_at "F"
  simp only [qiSeq, BS.qSortB, qv, List.getElem?_cons_zero, sitems_le hx (le_up1 hp)]
  walk_at "D"
  refine ⟨ok.q.1, ?_⟩
  rw [List.map_map]
  refine for_byT _ (fun i ε s => ∃ y, ε = [some x, some (.r p), y, none] ∧ s p = some (.lst (((((sortU ts).take i).foldl stepL []).map TI).map .d)) ∧ ∀ b, b ≠ p → s b = st b) ⟨none, rfl, up_same, fun b hb => up_ne hb⟩ (fun _ _ _ _ => trivial) ?_ ?_
  · rintro i m ε s hm ⟨y, rfl, hs, fr⟩ L hL
    walk_at "D"
    simp only [hs]
    walk_at "D"
    have hlen := hacc i
    have hi : i < (sortU ts).length := (List.getElem?_eq_some_iff.mp hm).1
    refine ⟨size_of (m := 4000) (by omega) (by omega), ?_⟩
    rw [List.map_map]
    have hn : (sortU ts).take (i + 1) = (sortU ts).take i ++ [m] := by rw [List.take_succ, hm]; rfl
    generalize hA : ((sortU ts).take i).foldl stepL [] = A at hs hlen ⊢
    refine comp_mapT _ (fun o => Bo (divB o m)) (by rw [← List.map_map]; exact hs) _ _ ?_ ?_
    · intro o ho Q1 h
      walk_at "D"
      exact ⟨o, m, rfl, h⟩
    · have e1 : [] ++ A.map (fun o => Bo (divB o m)) = ((A.map fun o => divB o m).map PyData.bool).map DV.d := by
        rw [List.nil_append, List.map_map, List.map_map]
        rfl
      rw [e1]
      walk_at "D"
      have hstep : ((sortU ts).take (i + 1)).foldl stepL [] = if (A.map fun o => divB o m).any id = true then A else A ++ [m] := by rw [hn, List.foldl_append, hA]; rfl
      cases e : (A.map fun o => divB o m).any id with
      | true =>
        rw [e, if_pos rfl] at hstep
        walk_at "D"
        exact hL _ _ ⟨_, rfl, by rw [hstep]; exact hs, fr⟩
      | false =>
        rw [e, if_neg Bool.false_ne_true] at hstep
        walk_at "D"
        refine ⟨⟨_, hs⟩, _, hs, by simp only [List.length_map, sizeL]; omega, hL _ _ ⟨_, rfl, ?_, fun b hb => by rw [up_ne hb]; exact fr b hb⟩⟩
        rw [up_same, hstep]
        simp
  · rintro ε s ⟨y, rfl, hs, fr⟩
    refine hN _ _ ?_
    walk_at "D"
    rw [List.take_length, fold_min ok.len] at hs
    exact fg_ret (K p s hp hs fr)
def sp_made : SpD := fun xs st Q => ∃ (x : DV) (ts : List (List Int)) (n : Nat), xs = [I n, x] ∧ sitems st x = some ((ts.map TI).map .d) ∧ OkS n 60 ts ∧ (minL ts).length ≤ 60 ∧ Q (.d (idl n (minL ts))) st
theorem len_made : ∀ xs st Q, sp_made xs st Q → xs.length = 2 := by rintro xs st Q ⟨a, ts, n, rfl, _⟩; rfl
theorem foldl_max_le {b : Int} : ∀ (l : List Int) (a : Int), a ≤ b → (∀ x ∈ l, x ≤ b) → l.foldl max a ≤ b
  | [], a, h, _ => h
  | x :: l, a, h, hl => foldl_max_le l (max a x) (by have := hl x List.mem_cons_self; omega) fun y hy => hl y (List.mem_cons_of_mem _ hy)
theorem sem_made : ∀ xs st Q, sp_made xs st Q → rd_made sp_least_ones { nx := fun _ st' => Fg Q (.d .none) st', rt := Fg Q } (startD 4 xs) st := by
  rintro xs st Q ⟨x, ts, n, rfl, hx, ok, h60, K⟩
  have e0 : startD 4 [I n, x] = [some (I n), some x, none, none] := rfl
  rw [e0]
  unfold rd_made
  refine seq fun N hN => ?_
  walk_at "D"
  refine ⟨x, ts, n, 60, rfl, hx, ok, fun p s hp hs fr => hN _ _ ?_⟩; clear hN N
  refine seq fun N hN => ?_
  walk_at "D"
  simp only [hs]
  walk_at "D"
  have hno : ¬ (60 : Int) < ((minL ts).length : Int) := by omega
  simp only [hno, decide_false]
  walk_at "D"
  refine hN _ _ ?_; clear hN N
  refine seq fun N hN => ?_
  walk_at "D"
  simp only [hs]
  rw [List.map_map]
  refine for_byT _ (fun i ε s' => s' = s ∧ ∃ y, ε = [some (I n), some x, some (.r p), y]) ⟨rfl, none, rfl⟩ (fun _ _ s' h => by rw [h.1, hs, List.map_map]) ?_ ?_
  · rintro i m ε s' hm ⟨rfl, y, rfl⟩ L hL
    have hmon := ok.2.2.2 m (min_sub m (List.mem_of_getElem? hm))
    cases m with
    | nil => have := hmon.1; have := ok.1; simp at *; omega
    | cons a r =>
      walk_at "D"
      have e1 : dints (DV.d (.int a) :: List.map DV.d (List.map PyData.int r)) = some (a :: r) := dints_map2 (a :: r)
      simp only [e1]
      walk_at "D"
      have hno : ¬ 60 < r.foldl max a := by
        have := foldl_max_le r a (hmon.2 a List.mem_cons_self).2 fun x hx => (hmon.2 x (List.mem_cons_of_mem _ hx)).2
        omega
      simp only [hno, decide_false]
      walk_at "D"
      exact hL _ _ ⟨rfl, _, rfl⟩
  · rintro ε s' ⟨rfl, y, rfl⟩
    refine hN _ _ ?_
    walk_at "D"
    simp only [hs]
    walk_at "D"
    exact ⟨by decide, fg_le (le_up hp fr) K⟩
end UC
end
section
set_option linter.all false
set_option maxRecDepth 100000
set_option maxHeartbeats 1000000
namespace UC
open PySem L2 DL RD
theorem mon_zero (n : Nat) : Mon n 0 (List.replicate n 0) := ⟨List.length_replicate .., fun x hx => by rw [(List.mem_replicate.mp hx).2]; omega⟩
theorem mul_comm {a b : List Int} {n : Nat} (ha : a.length = n) (hb : b.length = n) : mulL a b = mulL b a := by
  unfold mulL
  rw [gd_ext (len_zw ha hb) (len_zw hb ha)]
  intro j hj
  rw [gd_zw ha hb hj, gd_zw hb ha hj]
  omega
theorem mul_zero {n : Nat} {a : List Int} (ha : a.length = n) : mulL a (List.replicate n 0) = a := by
  unfold mulL
  rw [gd_ext (len_zw ha (List.length_replicate ..)) ha]
  intro j hj
  rw [gd_zw ha (List.length_replicate ..) hj, gd_rep hj]
  omega
section
variable {n : Nat} {w : Int} {A B : List (List Int)}
theorem Idl.len {cnt : Nat} (h : Idl n w cnt A) : ∀ a ∈ A, a.length = n := fun a ha => (h.2.2 a ha).1
end
theorem eqv_idl (n m : Int) (X Y : List (List Int)) : PyData.eqv (.tuple [.int n, TT X]) (.tuple [.int m, TT Y]) = (decide (n = m) && decide (X = Y)) := by
  rw [PyData.eqv, PyData.eqvAll, PyData.eqvAll, PyData.eqvAll, eqv_int, eqv_TT, Bool.and_true]
theorem shaped_idl (n : Int) (X : List (List Int)) : SeqAt.shaped (.tuple [.int n, TT X]) = true := (sh_tuple (n := 3) (l := [.int n, TT X]) fun x hx => by
  simp only [List.mem_cons, List.not_mem_nil, or_false] at hx
  rcases hx with rfl | rfl
  · exact sh_int
  · exact sh_TT).mono (by omega) |>.shaped
end UC
end
section
set_option linter.all false
set_option maxRecDepth 100000
set_option maxHeartbeats 1000000
namespace UC
open PySem L2 DL RD
theorem mul_assoc {a b c : List Int} {n : Nat} (ha : a.length = n) (hb : b.length = n) (hc : c.length = n) : mulL a (mulL b c) = mulL (mulL a b) c := by
  unfold mulL
  rw [gd_ext (len_zw ha (len_zw hb hc)) (len_zw (len_zw ha hb) hc)]
  intro j hj
  rw [gd_zw ha (len_zw hb hc) hj, gd_zw hb hc hj, gd_zw (len_zw ha hb) hc hj, gd_zw ha hb hj]
  omega
section
variable {n : Nat} {w : Int} {A B : List (List Int)}
theorem Idl.mono {c : Nat} {v : Int} {d : Nat} (h : Idl n w c A) (hw : w ≤ v) (hc : c ≤ d) : Idl n v d A := ⟨h.1, Nat.le_trans h.2.1 hc, fun t ht => (h.2.2 t ht).mono hw⟩
end
end UC
end
section
set_option linter.all false
set_option maxRecDepth 100000
set_option maxHeartbeats 1000000
namespace UC
open PySem L2 DL RD
def NN (n : Nat) (c : List Int) : Prop := c.length = n ∧ ∀ x ∈ c, 0 ≤ x
theorem Mon.nn {n : Nat} {w : Int} {a : List Int} (h : Mon n w a) : NN n a := ⟨h.1, fun x hx => (h.2 x hx).1⟩
theorem NN.at {n : Nat} {c : List Int} (h : NN n c) {j : Nat} (hj : j < n) : 0 ≤ gd c j := h.2 _ (gd_mem (by rw [h.1]; exact hj))
end UC
end
section
set_option linter.all false
set_option maxRecDepth 100000
set_option maxHeartbeats 1000000
namespace UC
open PySem L2 DL RD
structure Keeps (n : Nat) (h : List Int → List Int) : Prop where
  nn : ∀ a, NN n a → NN n (h a)
  mono : ∀ a b, NN n a → NN n b → divB a b = true → divB (h a) (h b) = true
abbrev NNs (n : Nat) (A : List (List Int)) : Prop := ∀ a ∈ A, NN n a
theorem NNs.len {n : Nat} {A : List (List Int)} (h : NNs n A) : ∀ a ∈ A, a.length = n := fun a ha => (h a ha).1
theorem NNs.map {n : Nat} {A : List (List Int)} {f : List Int → List Int} (kf : Keeps n f) (h : NNs n A) : NNs n (A.map f) := fun a ha => by
  obtain ⟨b, hb, rfl⟩ := List.mem_map.mp ha
  exact kf.nn b (h b hb)
end UC
end
section
set_option linter.all false
set_option maxRecDepth 100000
set_option maxHeartbeats 1000000
namespace UC
open PySem L2 DL RD
def holdsB (p m : List Int) : Bool := (p.zip m).any fun z => decide (0 < z.1) && decide (z.1 ≤ z.2)
theorem holds_iff {p m : List Int} {n : Nat} (hp : p.length = n) (hm : m.length = n) : holdsB p m = true ↔ ∃ j < n, 0 < gd p j ∧ gd p j ≤ gd m j := by
  unfold holdsB
  rw [zip_range hp hm, List.any_eq_true]
  constructor
  · rintro ⟨x, hx, h⟩
    obtain ⟨j, hj, rfl⟩ := List.mem_map.mp hx
    simp only [Bool.and_eq_true, decide_eq_true_eq] at h
    exact ⟨j, List.mem_range.mp hj, h⟩
  · rintro ⟨j, hj, h1, h2⟩
    exact ⟨_, List.mem_map.mpr ⟨j, List.mem_range.mpr hj, rfl⟩, by simp only [Bool.and_eq_true, decide_eq_true_eq]; exact ⟨h1, h2⟩⟩
/-- the power of one variable -/
def powL (n : Nat) (i : Nat) (e : Int) : List Int := (List.range n).map fun k => if k = i then e else 0
theorem len_powL {n i : Nat} {e : Int} : (powL n i e).length = n := by unfold powL; rw [List.length_map, List.length_range]
theorem gd_powL {n i k : Nat} {e : Int} (hk : k < n) : gd (powL n i e) k = if k = i then e else 0 := by
  rw [← gd_eq (by rw [len_powL]; exact hk)]
  unfold powL
  rw [List.getElem_map, List.getElem_range]
def powersL (p : List Int) : List (List Int) := (p.zipIdx.filter fun z => decide (0 < z.1)).map fun z => powL p.length z.2 z.1
theorem mem_powersL {p x : List Int} {n : Nat} (hp : p.length = n) : x ∈ powersL p ↔ ∃ j < n, 0 < gd p j ∧ x = powL n j (gd p j) := by
  unfold powersL
  rw [zipIdx_range, hp]
  simp only [List.mem_map, List.mem_filter, List.mem_range, decide_eq_true_eq]
  constructor
  · rintro ⟨z, ⟨⟨j, hj, rfl⟩, h⟩, rfl⟩
    exact ⟨j, hj, h, rfl⟩
  · rintro ⟨j, hj, h, rfl⟩
    exact ⟨_, ⟨⟨j, hj, rfl⟩, h⟩, rfl⟩
/-- the first one's ideal contains the other's -/
def aroundB (p q : List Int) : Bool := (powersL q).all fun x => holdsB p x
theorem around_iff {p q : List Int} {n : Nat} (hp : p.length = n) (hq : q.length = n) : aroundB p q = true ↔ ∀ j < n, 0 < gd q j → 0 < gd p j ∧ gd p j ≤ gd q j := by
  unfold aroundB
  rw [List.all_eq_true]
  constructor
  · intro h j hj h0
    obtain ⟨i, hi, h1, h2⟩ := (holds_iff hp len_powL).mp (h _ ((mem_powersL hq).mpr ⟨j, hj, h0, rfl⟩))
    rw [gd_powL hi] at h2
    by_cases e : i = j
    · subst e
      rw [if_pos rfl] at h2
      exact ⟨h1, h2⟩
    · rw [if_neg e] at h2
      omega
  · intro h x hx
    obtain ⟨j, hj, h0, rfl⟩ := (mem_powersL hq).mp hx
    obtain ⟨h1, h2⟩ := h j hj h0
    exact (holds_iff hp len_powL).mpr ⟨j, hj, h1, by rw [gd_powL hj, if_pos rfl]; exact h2⟩
theorem around_refl {p : List Int} : aroundB p p = true := (around_iff rfl rfl).mpr fun _ _ h => ⟨h, Int.le_refl _⟩
theorem around_trans {p q r : List Int} {n : Nat} (hp : p.length = n) (hq : q.length = n) (hr : r.length = n) (h1 : aroundB p q = true) (h2 : aroundB q r = true) : aroundB p r = true :=
  (around_iff hp hr).mpr fun j hj h => by
    obtain ⟨a, b⟩ := (around_iff hq hr).mp h2 j hj h
    obtain ⟨c, d⟩ := (around_iff hp hq).mp h1 j hj a
    exact ⟨c, by omega⟩
theorem around_anti {p q : List Int} {n : Nat} (hp : NN n p) (hq : NN n q) (h1 : aroundB p q = true) (h2 : aroundB q p = true) : p = q :=
  (gd_ext hp.1 hq.1).mpr fun j hj => by
    have a := (around_iff hp.1 hq.1).mp h1 j hj
    have b := (around_iff hq.1 hp.1).mp h2 j hj
    have := hp.at hj
    have := hq.at hj
    by_cases c : 0 < gd q j
    · have := (a c)
      have := b this.1
      omega
    · by_cases d : 0 < gd p j
      · have := b d
        omega
      · omega
theorem holds_up {p m m' : List Int} {n : Nat} (hp : p.length = n) (hm : m.length = n) (hm' : m'.length = n) (h : divB m m' = true) (k : holdsB p m = true) : holdsB p m' = true := by
  obtain ⟨j, hj, h1, h2⟩ := (holds_iff hp hm).mp k
  have := (divB_iff hm hm').mp h j hj
  exact (holds_iff hp hm').mpr ⟨j, hj, h1, by omega⟩
theorem holds_around {p q m : List Int} {n : Nat} (hp : p.length = n) (hq : q.length = n) (hm : m.length = n) (h : aroundB p q = true) (k : holdsB q m = true) : holdsB p m = true := by
  obtain ⟨j, hj, h1, h2⟩ := (holds_iff hq hm).mp k
  obtain ⟨h3, h4⟩ := (around_iff hp hq).mp h j hj h1
  exact (holds_iff hp hm).mpr ⟨j, hj, h3, by omega⟩
/-- what the components of the ideal of some generators are -/
structure Comp (n : Nat) (G L : List (List Int)) : Prop where
  nn : NNs n L
  up : ∀ p ∈ L, ∀ g ∈ G, holdsB p g = true
  all : ∀ q, NN n q → (∀ g ∈ G, holdsB q g = true) → ∃ p ∈ L, aroundB q p = true
  anti : ∀ p ∈ L, ∀ q ∈ L, aroundB p q = true → p = q
theorem Comp.same {n : Nat} {G L M : List (List Int)} (a : Comp n G L) (b : Comp n G M) : ∀ x, x ∈ L ↔ x ∈ M := by
  have key : ∀ {L M : List (List Int)}, Comp n G L → Comp n G M → ∀ x ∈ L, x ∈ M := fun {L M} a b x hx => by
    obtain ⟨p, hp, h1⟩ := b.all x (a.nn x hx) (a.up x hx)
    obtain ⟨q, hq, h2⟩ := a.all p (b.nn p hp) (b.up p hp)
    have nx := a.nn x hx
    have np := b.nn p hp
    have e := a.anti x hx q hq (around_trans nx.1 np.1 (a.nn q hq).1 h1 h2)
    subst e
    rw [around_anti nx np h1 h2]
    exact hp
  exact fun x => ⟨key a b x, key b a x⟩
/-- a monomial lies in the ideal just if all components hold it -/
theorem Comp.inside {n : Nat} {G L : List (List Int)} {b : List Int} (hG : ∀ g ∈ G, g.length = n) (a : Comp n G L) (hb : NN n b) : inL G b = true ↔ ∀ p ∈ L, holdsB p b = true := by
  constructor
  · intro h p hp
    obtain ⟨g, hg, h1⟩ := inL_iff.mp h
    exact holds_up (a.nn p hp).1 (hG g hg) hb.1 h1 (a.up p hp g hg)
  · intro h
    refine Classical.byContradiction fun hno => ?_
    let q : List Int := b.map (· + 1)
    have hq : NN n q := ⟨by rw [List.length_map]; exact hb.1, fun x hx => by
      obtain ⟨y, hy, rfl⟩ := List.mem_map.mp hx
      have := hb.2 y hy
      omega⟩
    have gq : ∀ j, j < n → gd q j = gd b j + 1 := fun j hj => by
      have hj' : j < b.length := by rw [hb.1]; exact hj
      rw [← gd_eq (a := q) (by rw [List.length_map]; exact hj'), ← gd_eq hj', List.getElem_map]
    obtain ⟨p, hp, h1⟩ := a.all q hq fun g hg => by
      refine Classical.byContradiction fun hn => ?_
      refine hno (inL_iff.mpr ⟨g, hg, (divB_iff (hG g hg) hb.1).mpr fun j hj => ?_⟩)
      refine Classical.byContradiction fun hlt => hn ((holds_iff hq.1 (hG g hg)).mpr ⟨j, hj, ?_, ?_⟩)
      · rw [gq j hj]
        have := hb.at hj
        omega
      · rw [gq j hj]
        omega
    obtain ⟨j, hj, h2, h3⟩ := (holds_iff (a.nn p hp).1 hb.1).mp (h p hp)
    have := (around_iff hq.1 (a.nn p hp).1).mp h1 j hj h2
    rw [gq j hj] at this
    omega
def setI (p : List Int) (i : Nat) (e : Int) : List Int := (p.take i ++ [e]) ++ p.drop (i + 1)
theorem len_setI {p : List Int} {i n : Nat} {e : Int} (hp : p.length = n) (hi : i < n) : (setI p i e).length = n := by
  unfold setI
  simp
  omega
theorem gd_setI {p : List Int} {i j n : Nat} {e : Int} (hp : p.length = n) (hi : i < n) (hj : j < n) : gd (setI p i e) j = if j = i then e else gd p j := by
  unfold gd setI
  rw [List.getD_eq_getElem?_getD, List.getD_eq_getElem?_getD]
  by_cases h : j < i
  · rw [if_neg (by omega), List.append_assoc, List.getElem?_append_left (by simp; omega), List.getElem?_take_of_lt h]
  · by_cases e : j = i
    · subst e
      rw [if_pos rfl, List.getElem?_append_left (by simp; omega), List.getElem?_append_right (by rw [List.length_take]; omega)]
      simp [show j - min j p.length = 0 by omega]
    · rw [if_neg e, List.getElem?_append_right (by simp; omega), List.getElem?_drop]
      congr 2
      simp
      omega
theorem mem_setI {p : List Int} {i : Nat} {e x : Int} (h : x ∈ setI p i e) : x = e ∨ x ∈ p := by
  unfold setI at h
  rcases List.mem_append.mp h with h | h
  · rcases List.mem_append.mp h with h | h
    · exact .inr (List.mem_of_mem_take h)
    · exact .inl (List.mem_singleton.mp h)
  · exact .inr (List.mem_of_mem_drop h)
def splitL (p g : List Int) : List (List Int) := if holdsB p g = true then [p] else (g.zipIdx.filter fun z => decide (0 < z.1)).map fun z => setI p z.2 z.1
theorem mem_splitL {p g x : List Int} {n : Nat} (hg : g.length = n) : x ∈ splitL p g ↔ (holdsB p g = true ∧ x = p) ∨ (holdsB p g = false ∧ ∃ j < n, 0 < gd g j ∧ x = setI p j (gd g j)) := by
  unfold splitL
  cases e : holdsB p g with
  | true => simp
  | false =>
    rw [if_neg Bool.false_ne_true, zipIdx_range, hg]
    simp only [List.mem_map, List.mem_filter, List.mem_range, decide_eq_true_eq, Bool.false_eq_true, false_and, true_and, false_or]
    constructor
    · rintro ⟨z, ⟨⟨j, hj, rfl⟩, h⟩, rfl⟩
      exact ⟨j, hj, h, rfl⟩
    · rintro ⟨j, hj, h, rfl⟩
      exact ⟨_, ⟨⟨j, hj, rfl⟩, h⟩, rfl⟩
def idleL (S : List (List Int)) : List (List Int) := (sortU S).filter fun p => !(((sortU S).map fun q => decide (p ≠ q) && aroundB p q).any id)
theorem mem_idleL {S : List (List Int)} {p : List Int} : p ∈ idleL S ↔ p ∈ S ∧ ∀ q ∈ S, aroundB p q = true → p = q := by
  unfold idleL
  rw [List.mem_filter, mem_sortU, Bool.not_eq_true', Bool.eq_false_iff, ne_eq, List.any_eq_true]
  constructor
  · rintro ⟨h1, h2⟩
    refine ⟨h1, fun q hq h => Classical.byContradiction fun hne => h2 ⟨true, List.mem_map.mpr ⟨q, mem_sortU.mpr hq, ?_⟩, rfl⟩⟩
    rw [h, decide_eq_true hne]
    rfl
  · rintro ⟨h1, h2⟩
    refine ⟨h1, ?_⟩
    rintro ⟨b, hb, hb2⟩
    obtain ⟨q, hq, rfl⟩ := List.mem_map.mp hb
    simp only [id_eq, Bool.and_eq_true, decide_eq_true_eq] at hb2
    exact hb2.1 (h2 q (mem_sortU.mp hq) hb2.2)
theorem ris_idleL (S : List (List Int)) : RisL (idleL S) := (ris_sortU S).sublist List.filter_sublist
/-- below every one there is one that contains no other -/
theorem idle_below {n : Nat} {S : List (List Int)} (hS : NNs n S) : ∀ p ∈ S, ∃ q ∈ idleL S, aroundB p q = true := by
  have key : ∀ (k : Nat) (p : List Int), p ∈ S → (S.filter fun q => aroundB p q).length ≤ k → ∃ q ∈ idleL S, aroundB p q = true := by
    intro k
    induction k with
    | zero =>
      intro p hp h
      have : p ∈ S.filter fun q => aroundB p q := List.mem_filter.mpr ⟨hp, around_refl⟩
      rw [List.eq_nil_of_length_eq_zero (Nat.le_zero.mp h)] at this
      cases this
    | succ k ih =>
      intro p hp h
      by_cases e : ∃ q ∈ S, aroundB p q = true ∧ p ≠ q
      · obtain ⟨q, hq, h1, h2⟩ := e
        have sub : (S.filter fun r => aroundB q r).length < (S.filter fun r => aroundB p r).length := by
          have e1 : (S.filter fun r => aroundB q r) = (S.filter fun r => aroundB p r).filter fun r => aroundB q r := by
            rw [List.filter_filter]
            refine List.filter_congr fun r hr => ?_
            cases z : aroundB q r with
            | false => rfl
            | true => rw [around_trans (hS p hp).1 (hS q hq).1 (hS r hr).1 h1 z]; rfl
          rw [e1]
          refine List.length_filter_lt_length_iff_exists.mpr ⟨p, List.mem_filter.mpr ⟨hp, around_refl⟩, fun z => h2 (around_anti (hS p hp) (hS q hq) h1 z)⟩
        obtain ⟨r, hr, h3⟩ := ih q hq (by omega)
        exact ⟨r, hr, around_trans (hS p hp).1 (hS q hq).1 (hS r (mem_idleL.mp hr).1).1 h1 h3⟩
      · exact ⟨p, mem_idleL.mpr ⟨hp, fun q hq h1 => Classical.byContradiction fun h2 => e ⟨q, hq, h1, h2⟩⟩, around_refl⟩
  exact fun p hp => key _ p hp (Nat.le_refl _)
def stepC (F : List (List Int)) (g : List Int) : List (List Int) := idleL (F.flatMap fun p => splitL p g)
def compF (n : Nat) (G : List (List Int)) : List (List Int) := G.foldl stepC [List.replicate n 0]
theorem comp_nil (n : Nat) : Comp n [] [List.replicate n 0] := by
  refine ⟨fun a ha => by rw [List.mem_singleton.mp ha]; exact (mon_zero n).nn, (fun p _ g hg => nomatch hg), fun q hq _ => ⟨_, List.mem_singleton.mpr rfl, (around_iff hq.1 (List.length_replicate ..)).mpr fun j hj h => ?_⟩, fun p hp q hq _ => ?_⟩
  · rw [gd_rep hj] at h
    omega
  · rw [List.mem_singleton.mp hp, List.mem_singleton.mp hq]
theorem comp_step {n : Nat} {G F : List (List Int)} {g : List Int} (hG : NNs n G) (hg : NN n g) (h : Comp n G F) : Comp n (G ++ [g]) (stepC F g) := by
  have hS : NNs n (F.flatMap fun p => splitL p g) := fun x hx => by
    obtain ⟨p, hp, hx⟩ := List.mem_flatMap.mp hx
    rcases (mem_splitL hg.1).mp hx with ⟨_, rfl⟩ | ⟨_, j, hj, _, rfl⟩
    · exact h.nn x hp
    · refine ⟨len_setI (h.nn p hp).1 hj, fun y hy => ?_⟩
      rcases mem_setI hy with rfl | hy
      · exact hg.at hj
      · exact (h.nn p hp).2 y hy
  refine ⟨fun x hx => hS x (mem_idleL.mp hx).1, fun x hx y hy => ?_, fun q hq hall => ?_, fun p hp q hq hd => (mem_idleL.mp hp).2 q (mem_idleL.mp hq).1 hd⟩
  · obtain ⟨p, hp, hx'⟩ := List.mem_flatMap.mp (mem_idleL.mp hx).1
    have lp := (h.nn p hp).1
    rcases (mem_splitL hg.1).mp hx' with ⟨e, rfl⟩ | ⟨e, j, hj, h0, rfl⟩
    · rcases List.mem_append.mp hy with hy | hy
      · exact h.up x hp y hy
      · rw [List.mem_singleton.mp hy]
        exact e
    · have ls := len_setI (e := gd g j) lp hj
      rcases List.mem_append.mp hy with hy | hy
      · refine holds_around ls lp (hG y hy).1 ((around_iff ls lp).mpr fun i hi hi0 => ?_) (h.up p hp y hy)
        rw [gd_setI lp hj hi]
        by_cases e2 : i = j
        · subst e2
          rw [if_pos rfl]
          refine ⟨h0, ?_⟩
          refine Classical.byContradiction fun hlt => ?_
          rw [Bool.eq_false_iff] at e
          exact e ((holds_iff lp hg.1).mpr ⟨i, hi, hi0, by omega⟩)
        · rw [if_neg e2]
          exact ⟨hi0, Int.le_refl _⟩
      · rw [List.mem_singleton.mp hy]
        exact (holds_iff ls hg.1).mpr ⟨j, hj, by rw [gd_setI lp hj hj, if_pos rfl]; exact h0, by rw [gd_setI lp hj hj, if_pos rfl]; exact Int.le_refl _⟩
  · obtain ⟨p, hp, hqp⟩ := h.all q hq fun y hy => hall y (List.mem_append_left _ hy)
    have lp := (h.nn p hp).1
    obtain ⟨x, hx, hqx⟩ : ∃ x ∈ (F.flatMap fun p => splitL p g), aroundB q x = true := by
      cases e : holdsB p g with
      | true => exact ⟨p, List.mem_flatMap.mpr ⟨p, hp, (mem_splitL hg.1).mpr (.inl ⟨e, rfl⟩)⟩, hqp⟩
      | false =>
        obtain ⟨j, hj, h1, h2⟩ := (holds_iff hq.1 hg.1).mp (hall g (List.mem_append_right _ (List.mem_singleton.mpr rfl)))
        refine ⟨setI p j (gd g j), List.mem_flatMap.mpr ⟨p, hp, (mem_splitL hg.1).mpr (.inr ⟨e, j, hj, by omega, rfl⟩)⟩, (around_iff hq.1 (len_setI lp hj)).mpr fun i hi h0 => ?_⟩
        rw [gd_setI lp hj hi] at h0 ⊢
        by_cases e2 : i = j
        · subst e2
          rw [if_pos rfl]
          exact ⟨h1, h2⟩
        · rw [if_neg e2] at h0 ⊢
          exact (around_iff hq.1 lp).mp hqp i hi h0
    obtain ⟨y, hy, hxy⟩ := idle_below hS x hx
    exact ⟨y, hy, around_trans hq.1 (hS x hx).1 (hS y (mem_idleL.mp hy).1).1 hqx hxy⟩
theorem comp_fold {n : Nat} : ∀ (G G0 F : List (List Int)), NNs n (G0 ++ G) → Comp n G0 F → Comp n (G0 ++ G) (G.foldl stepC F)
  | [], G0, F, _, h => by rw [List.append_nil]; exact h
  | g :: G, G0, F, hG, h => by
    have e : G0 ++ g :: G = (G0 ++ [g]) ++ G := by simp
    rw [e] at hG ⊢
    refine comp_fold G (G0 ++ [g]) (stepC F g) hG (comp_step (fun x hx => hG x (List.mem_append_left _ (List.mem_append_left _ hx))) (hG g (by simp)) h)
theorem comp_compF {n : Nat} {G : List (List Int)} (hG : NNs n G) : Comp n G (compF n G) := by
  have := comp_fold G [] [List.replicate n 0] (by rw [List.nil_append]; exact hG) (comp_nil n)
  rw [List.nil_append] at this
  exact this
theorem ris_fold : ∀ (G F : List (List Int)), RisL F → RisL (G.foldl stepC F)
  | [], F, h => h
  | g :: G, F, _ => ris_fold G _ (ris_idleL _)
theorem ris_compF (n : Nat) (G : List (List Int)) : RisL (compF n G) := ris_fold G _ (List.pairwise_singleton _ _)
end UC
end
section
set_option linter.all false
set_option maxRecDepth 100000
set_option maxHeartbeats 1000000
namespace UC
open PySem L2 DL RD
theorem ris_nodup {L : List (List Int)} (h : RisL L) : L.Nodup := List.Pairwise.imp (fun h e => by rw [e, lexL_irr] at h; cases h) h
theorem nn_of_gd {n : Nat} {a : List Int} (h : a.length = n) (k : ∀ j < n, 0 ≤ gd a j) : NN n a := ⟨h, fun x hx => by
  obtain ⟨j, hj, rfl⟩ := List.mem_iff_getElem.mp hx
  rw [gd_eq hj]
  exact k j (by omega)⟩
def addA (K : List (List Int)) (a : List Int) : List (List Int) := if a ∈ K then K else K ++ [a]
def stepF (K : List (List Int)) (g : List Int) : List (List Int) := (K.map fun m => lcmL m g).foldl addA K
end UC
end
section
set_option linter.all false
set_option maxRecDepth 100000
set_option maxHeartbeats 1000000
open PySem L2 DL RD UC
local macro_rules | `(tactic| walk_at "E") => `(tactic| (try simp only [qAsg, qRet, qDrop, qIfS, qTest, qAndT, qOrT, qNotT, qAndV, qOrV, qNotV, qIf, qOp, qUn, qChain, onB, qv, qc, qgN, qgT, qgCons, qgNil, qCons, qNil, qTup, qLst, qPar, qPar3, qAug, qCB, qCall, qLen, qTupleC, qListC, qMax2, qMin2, qIntC, qSum, qAny, qAll, qIsi, tyName, qAdd, qSub, qMul, qFdiv, qMod, qPow, qI2, qCmpI, qEq, qNe, qLt, qLe, qGt, qGe, qNeg, qIx, qDGet, qDIn, qDPut, qSl, qPart, qNoPart, qNext, qFor, qiSeq, qiRng1, qiRng2, qiZip, qiEnum, qLc, seqSrc, lsrc, titems, litems, sitems, fz, newL, List.getElem?_cons_zero, List.getElem?_cons_succ, List.set_cons_zero, List.set_cons_succ, if_true, if_false, Bool.false_eq_true, ite_true, ite_false, up_same, reduceIte, decide_true, decide_false, true_and, and_true]))
local macro_rules | `(tactic| walk_at "D") => `(tactic| (try simp only [qAsg, qRet, qDrop, qIfS, qTest, qAndT, qOrT, qNotT, qAndV, qOrV, qNotV, qIf, qOp, qUn, qChain, onB, qv, qc, qgN, qgT, qgCons, qgNil, qCons, qNil, qTup, qLst, qPar, qPar3, qAug, qCB, qCall, qLen, qTupleC, qListC, qMax2, qMin2, qIntC, qSum, qAny, qAll, qIsi, tyName, qAdd, qSub, qMul, qFdiv, qMod, qPow, qI2, qCmpI, qEq, qNe, qLt, qLe, qGt, qGe, qNeg, qIx, qDGet, qDIn, qDPut, qSl, qPart, qNoPart, qNext, qFor, qiSeq, qiRng1, qiRng2, qiZip, qiEnum, qLc, seqSrc, lsrc, titems, litems, sitems, fz, newL, List.getElem?_cons_zero, List.getElem?_cons_succ, List.set_cons_zero, List.set_cons_succ, if_true, if_false, Bool.false_eq_true, ite_true, ite_false, up_same, reduceIte, decide_true, decide_false, true_and, and_true, eqv_int, eqv_bool, eqv_TI, eqv_LI, eqv_TT, eqv_LT, eqv_nilL, eqv_nilT, shaped_TI, shaped_LI, shaped_TT, shaped_LT, shaped_int, shaped_bool, shaped_nilL, shaped_nilT, dints_map2, dbools_map2, datas_map, mkT_map, mkT_0, mkT_1, mkT_2, mkT_3, List.length_map, List.length_cons, List.length_nil, List.length_append, List.map_cons, List.map_nil, wipeD, Bool.not_true, Bool.not_false, eq_self, not_true_eq_false, not_false_eq_true, kitB_tt, kitB_ll, kitB_dd, kitB_bb, kitB_ib, kitB_ii, kitB_ss, kitB_tl, kitB_lt, Function.comp, datas, Option.map_some, List.cons_append, List.nil_append, CPow, le_size4, Int.toNat_natCast, rngD0, I_eq, Bo_eq, BS.qSortB, in_IT, in_IL, in_TT, in_TL, qNotN, qIsN, qSortD, qListRg, qDispT, keyX_TI, qGet, qiItems, qLockE, qLockS, qPop, qMaxDf, qLc2, qMax1, qMin1, qAppend, qExtend, tints_TI, dv_TI, Option.bind_some, qRetN, atI_0, atI_1, atI_2, mk_appT, mk_snocI, idl, rep_I, Option.map_none, eqv_idl, shaped_idl, Bool.and_self, Bool.true_and, Bool.and_true]))
local macro_rules | `(tactic| walk_at "F") => `(tactic| (try simp only [qAsg, qRet, qDrop, qIfS, qTest, qAndT, qOrT, qNotT, qAndV, qOrV, qNotV, qIf, qOp, qUn, qChain, onB, qv, qc, qgN, qgT, qgCons, qgNil, qCons, qNil, qTup, qLst, qPar, qPar3, qAug, qCB, qCall, qLen, qTupleC, qListC, qMax2, qMin2, qIntC, qSum, qAny, qAll, qIsi, tyName, qAdd, qSub, qMul, qFdiv, qMod, qPow, qI2, qCmpI, qEq, qNe, qLt, qLe, qGt, qGe, qNeg, qIx, qDGet, qDIn, qDPut, qSl, qPart, qNoPart, qNext, qFor, qiRng1, qiRng2, qiZip, qiEnum, qLc, fz, newL, List.getElem?_cons_zero, List.getElem?_cons_succ, List.set_cons_zero, List.set_cons_succ, if_true, if_false, Bool.false_eq_true, ite_true, ite_false, up_same, reduceIte, decide_true, decide_false, true_and, and_true, eqv_int, eqv_bool, eqv_TI, eqv_LI, eqv_TT, eqv_LT, eqv_nilL, eqv_nilT, shaped_TI, shaped_LI, shaped_TT, shaped_LT, shaped_int, shaped_bool, shaped_nilL, shaped_nilT, dints_map2, dbools_map2, datas_map, mkT_map, mkT_0, mkT_1, mkT_2, mkT_3, List.length_map, List.length_cons, List.length_nil, List.length_append, List.map_cons, List.map_nil, wipeD, Bool.not_true, Bool.not_false, eq_self, not_true_eq_false, not_false_eq_true, kitB_tt, kitB_ll, kitB_dd, kitB_bb, kitB_ib, kitB_ii, kitB_ss, kitB_tl, kitB_lt, Function.comp, datas, Option.map_some, List.cons_append, List.nil_append, CPow, le_size4, Int.toNat_natCast, rngD0, I_eq, Bo_eq, BS.qSortB, in_IT, in_IL, in_TT, in_TL, qNotN, qIsN, qSortD, qListRg, qDispT, keyX_TI, qGet, qiItems, qLockE, qLockS, qPop, qMaxDf, qLc2, qMax1, qMin1, qAppend, qExtend, tints_TI, dv_TI, Option.bind_some, qRetN, atI_0, atI_1, atI_2, mk_appT, mk_snocI, idl, rep_I, Option.map_none, eqv_idl, shaped_idl, Bool.and_self, Bool.true_and, Bool.and_true]))
namespace UC
open PySem L2 DL RD
def sp_want_small : SpD := fun xs st Q => ∃ (A : List (List Int)) (n : Nat), xs = [.d (idl n A)] ∧ n ≤ 8 ∧ A.length ≤ 10 ∧ Q (.d .none) st
theorem len_want_small : ∀ xs st Q, sp_want_small xs st Q → xs.length = 1 := by rintro xs st Q ⟨a, n, rfl, _⟩; rfl
theorem sem_want_small : ∀ xs st Q, sp_want_small xs st Q → rd_want_small { nx := fun _ st' => Fg Q (.d .none) st', rt := Fg Q } (startD 1 xs) st := by
  rintro xs st Q ⟨A, n, rfl, h1, h2, K⟩
  have e0 : startD 1 [.d (idl n A)] = [some (.d (idl n A))] := rfl
  rw [e0]
  unfold rd_want_small
  have g1 : ¬ (8 : Int) < n := by omega
  have g2 : ¬ (10 : Int) < A.length := by omega
  refine seq fun N hN => ?_
  walk_at "D"
  simp only [g1, decide_false]
  walk_at "D"
  refine hN _ _ ?_
  walk_at "D"
  simp only [g2, decide_false]
  walk_at "D"
  exact fg_ret K
end UC
end
section
set_option linter.all false
set_option maxRecDepth 100000
set_option maxHeartbeats 1000000
open PySem L2 DL RD UC
local macro_rules | `(tactic| walk_at "E") => `(tactic| (try simp only [qAsg, qRet, qDrop, qIfS, qTest, qAndT, qOrT, qNotT, qAndV, qOrV, qNotV, qIf, qOp, qUn, qChain, onB, qv, qc, qgN, qgT, qgCons, qgNil, qCons, qNil, qTup, qLst, qPar, qPar3, qAug, qCB, qCall, qLen, qTupleC, qListC, qMax2, qMin2, qIntC, qSum, qAny, qAll, qIsi, tyName, qAdd, qSub, qMul, qFdiv, qMod, qPow, qI2, qCmpI, qEq, qNe, qLt, qLe, qGt, qGe, qNeg, qIx, qDGet, qDIn, qDPut, qSl, qPart, qNoPart, qNext, qFor, qiSeq, qiRng1, qiRng2, qiZip, qiEnum, qLc, seqSrc, lsrc, titems, litems, sitems, fz, newL, List.getElem?_cons_zero, List.getElem?_cons_succ, List.set_cons_zero, List.set_cons_succ, if_true, if_false, Bool.false_eq_true, ite_true, ite_false, up_same, reduceIte, decide_true, decide_false, true_and, and_true]))
local macro_rules | `(tactic| walk_at "D") => `(tactic| (try simp only [qAsg, qRet, qDrop, qIfS, qTest, qAndT, qOrT, qNotT, qAndV, qOrV, qNotV, qIf, qOp, qUn, qChain, onB, qv, qc, qgN, qgT, qgCons, qgNil, qCons, qNil, qTup, qLst, qPar, qPar3, qAug, qCB, qCall, qLen, qTupleC, qListC, qMax2, qMin2, qIntC, qSum, qAny, qAll, qIsi, tyName, qAdd, qSub, qMul, qFdiv, qMod, qPow, qI2, qCmpI, qEq, qNe, qLt, qLe, qGt, qGe, qNeg, qIx, qDGet, qDIn, qDPut, qSl, qPart, qNoPart, qNext, qFor, qiSeq, qiRng1, qiRng2, qiZip, qiEnum, qLc, seqSrc, lsrc, titems, litems, sitems, fz, newL, List.getElem?_cons_zero, List.getElem?_cons_succ, List.set_cons_zero, List.set_cons_succ, if_true, if_false, Bool.false_eq_true, ite_true, ite_false, up_same, reduceIte, decide_true, decide_false, true_and, and_true, eqv_int, eqv_bool, eqv_TI, eqv_LI, eqv_TT, eqv_LT, eqv_nilL, eqv_nilT, shaped_TI, shaped_LI, shaped_TT, shaped_LT, shaped_int, shaped_bool, shaped_nilL, shaped_nilT, dints_map2, dbools_map2, datas_map, mkT_map, mkT_0, mkT_1, mkT_2, mkT_3, List.length_map, List.length_cons, List.length_nil, List.length_append, List.map_cons, List.map_nil, wipeD, Bool.not_true, Bool.not_false, eq_self, not_true_eq_false, not_false_eq_true, kitB_tt, kitB_ll, kitB_dd, kitB_bb, kitB_ib, kitB_ii, kitB_ss, kitB_tl, kitB_lt, Function.comp, datas, Option.map_some, List.cons_append, List.nil_append, CPow, le_size4, Int.toNat_natCast, rngD0, I_eq, Bo_eq, BS.qSortB, in_IT, in_IL, in_TT, in_TL, qNotN, qIsN, qSortD, qListRg, qDispT, keyX_TI, qGet, qiItems, qLockE, qLockS, qPop, qMaxDf, qLc2, qMax1, qMin1, qAppend, qExtend, tints_TI, dv_TI, Option.bind_some, qRetN, atI_0, atI_1, atI_2, mk_appT, mk_snocI, idl, rep_I, Option.map_none, eqv_idl, shaped_idl, Bool.and_self, Bool.true_and, Bool.and_true]))
local macro_rules | `(tactic| walk_at "F") => `(tactic| (try simp only [qAsg, qRet, qDrop, qIfS, qTest, qAndT, qOrT, qNotT, qAndV, qOrV, qNotV, qIf, qOp, qUn, qChain, onB, qv, qc, qgN, qgT, qgCons, qgNil, qCons, qNil, qTup, qLst, qPar, qPar3, qAug, qCB, qCall, qLen, qTupleC, qListC, qMax2, qMin2, qIntC, qSum, qAny, qAll, qIsi, tyName, qAdd, qSub, qMul, qFdiv, qMod, qPow, qI2, qCmpI, qEq, qNe, qLt, qLe, qGt, qGe, qNeg, qIx, qDGet, qDIn, qDPut, qSl, qPart, qNoPart, qNext, qFor, qiRng1, qiRng2, qiZip, qiEnum, qLc, fz, newL, List.getElem?_cons_zero, List.getElem?_cons_succ, List.set_cons_zero, List.set_cons_succ, if_true, if_false, Bool.false_eq_true, ite_true, ite_false, up_same, reduceIte, decide_true, decide_false, true_and, and_true, eqv_int, eqv_bool, eqv_TI, eqv_LI, eqv_TT, eqv_LT, eqv_nilL, eqv_nilT, shaped_TI, shaped_LI, shaped_TT, shaped_LT, shaped_int, shaped_bool, shaped_nilL, shaped_nilT, dints_map2, dbools_map2, datas_map, mkT_map, mkT_0, mkT_1, mkT_2, mkT_3, List.length_map, List.length_cons, List.length_nil, List.length_append, List.map_cons, List.map_nil, wipeD, Bool.not_true, Bool.not_false, eq_self, not_true_eq_false, not_false_eq_true, kitB_tt, kitB_ll, kitB_dd, kitB_bb, kitB_ib, kitB_ii, kitB_ss, kitB_tl, kitB_lt, Function.comp, datas, Option.map_some, List.cons_append, List.nil_append, CPow, le_size4, Int.toNat_natCast, rngD0, I_eq, Bo_eq, BS.qSortB, in_IT, in_IL, in_TT, in_TL, qNotN, qIsN, qSortD, qListRg, qDispT, keyX_TI, qGet, qiItems, qLockE, qLockS, qPop, qMaxDf, qLc2, qMax1, qMin1, qAppend, qExtend, tints_TI, dv_TI, Option.bind_some, qRetN, atI_0, atI_1, atI_2, mk_appT, mk_snocI, idl, rep_I, Option.map_none, eqv_idl, shaped_idl, Bool.and_self, Bool.true_and, Bool.and_true]))
namespace UC
open PySem L2 DL RD
theorem leD_lex (a b : List Int) : leD (TI a) (TI b) = !lexL b a := by
  show (!PySem.W.dataLt (TI b) (TI a)) = _
  rw [BS.data_lexL]
theorem alike_TIs (L : List (List Int)) : PySem.W.AllAlike (L.map TI) := PySem.W.AllAlike.of fun a b => BS.alike_ints2 a b
theorem sortX_TIs (L : List (List Int)) : BS.SortX (L.map TI) := .inr fun d hd => by
  obtain ⟨t, ht, rfl⟩ := List.mem_map.mp hd
  exact ⟨_, rfl⟩
theorem depth_TIs {L : List (List Int)} : ∀ d ∈ L.map TI, d.depth ≤ 16 := fun d hd => by
  obtain ⟨t, ht, rfl⟩ := List.mem_map.mp hd
  have : (TI t).depth ≤ 1 := (sh_TI (n := 0)).2
  omega
theorem lex_le_tr (x y z : List Int) (h1 : (!lexL y x) = true) (h2 : (!lexL z y) = true) : (!lexL z x) = true := by
  have a := BS.le_tr (0, x) (0, y) (0, z)
  simp only [BS.le_lexL] at a
  exact a h1 h2
theorem lex_le_tot (x y : List Int) : ((!lexL y x) || !lexL x y) = true := by
  have a := BS.le_tot (0, x) (0, y)
  simp only [BS.le_lexL] at a
  exact a
theorem sort_TIs (L : List (List Int)) : (L.map TI).mergeSort leD = (L.mergeSort fun a b => !lexL b a).map TI :=
  (List.map_mergeSort (f := TI) (s := leD) fun a _ b _ => (leD_lex a b).symm).symm
theorem sort_nodup {L : List (List Int)} (h : L.Nodup) : (L.map TI).mergeSort leD = (sortU L).map TI := by
  rw [sort_TIs]
  congr 1
  refine ris_eq ?_ (ris_sortU L) fun x => ?_
  · have nd : (L.mergeSort fun a b => !lexL b a).Nodup := (List.mergeSort_perm _ _).nodup_iff.mpr h
    have pw := List.pairwise_mergeSort lex_le_tr lex_le_tot L
    refine List.Pairwise.imp (fun {a b} hab => ?_) (List.Pairwise.and nd pw)
    rcases lexL_tri a b with e | e | e
    · exact e
    · exact absurd e hab.1
    · rw [e] at hab; exact absurd hab.2 (by decide)
  · rw [mem_sortU, (List.mergeSort_perm _ _).mem_iff]
theorem sort_ris {L : List (List Int)} (h : RisL L) : (L.map TI).mergeSort leD = L.map TI := by
  rw [sort_nodup (ris_nodup h), sortU_eq h fun x => Iff.rfl]
def codeN (w : Nat) : List Int → Nat
  | [] => 0
  | x :: r => x.toNat + (w + 1) * codeN w r
theorem codeN_lt {w : Nat} : ∀ {a : List Int}, (∀ x ∈ a, 0 ≤ x ∧ x ≤ w) → codeN w a < (w + 1) ^ a.length
  | [], _ => by simp [codeN]
  | x :: r, h => by
    have h1 := h x List.mem_cons_self
    have h2 := codeN_lt (w := w) (a := r) fun y hy => h y (List.mem_cons_of_mem _ hy)
    rw [codeN, List.length_cons, Nat.pow_succ, Nat.mul_comm _ (w + 1)]
    have : (w + 1) * (codeN w r + 1) ≤ (w + 1) * (w + 1) ^ r.length := Nat.mul_le_mul_left _ h2
    rw [Nat.mul_add] at this
    omega
theorem codeN_inj {w : Nat} : ∀ {a b : List Int}, a.length = b.length → (∀ x ∈ a, 0 ≤ x ∧ x ≤ w) → (∀ x ∈ b, 0 ≤ x ∧ x ≤ w) → codeN w a = codeN w b → a = b
  | [], [], _, _, _, _ => rfl
  | x :: a, y :: b, hl, ha, hb, h => by
    have h1 := ha x List.mem_cons_self
    have h2 := hb y List.mem_cons_self
    simp only [codeN] at h
    have e : x.toNat = y.toNat := by
      have := congrArg (· % (w + 1)) h
      simp only [Nat.add_mul_mod_self_left] at this
      rw [Nat.mod_eq_of_lt (by omega), Nat.mod_eq_of_lt (by omega)] at this
      exact this
    have e2 : codeN w a = codeN w b := by
      rw [e] at h
      exact Nat.eq_of_mul_eq_mul_left (by omega) (Nat.add_left_cancel h)
    rw [codeN_inj (by simpa using hl) (fun z hz => ha z (List.mem_cons_of_mem _ hz)) (fun z hz => hb z (List.mem_cons_of_mem _ hz)) e2, show x = y by omega]
theorem nodup_count {L : List (List Int)} {n w : Nat} (nd : L.Nodup) (h : ∀ a ∈ L, Mon n w a) : L.length ≤ (w + 1) ^ n := by
  have nf : (L.map (codeN w)).Nodup := List.pairwise_map.mpr (List.Pairwise.imp_of_mem (fun {a b} ha hb hne e => hne (codeN_inj ((h a ha).1.trans (h b hb).1.symm) (h a ha).2 (h b hb).2 e)) nd)
  have := L2.nat_nodup_len (L.map (codeN w)) (List.range ((w + 1) ^ n)) nf fun x hx => by
    obtain ⟨a, ha, rfl⟩ := List.mem_map.mp hx
    have := codeN_lt (h a ha).2
    rw [(h a ha).1] at this
    exact List.mem_range.mpr this
  rw [List.length_map, List.length_range] at this
  exact this
theorem mon_step {n w : Nat} {F : List (List Int)} {g : List Int} (hg : Mon n w g) (hF : ∀ a ∈ F, Mon n w a) : ∀ a ∈ F.flatMap fun p => splitL p g, Mon n w a := fun x hx => by
  obtain ⟨p, hp, hx⟩ := List.mem_flatMap.mp hx
  rcases (mem_splitL hg.1).mp hx with ⟨_, rfl⟩ | ⟨_, j, hj, _, rfl⟩
  · exact hF x hp
  · refine ⟨len_setI (hF p hp).1 hj, fun y hy => ?_⟩
    rcases mem_setI hy with rfl | hy
    · exact hg.2 _ (gd_mem (by rw [hg.1]; exact hj))
    · exact (hF p hp).2 y hy
theorem mon_compF {n w : Nat} {G : List (List Int)} (hG : ∀ a ∈ G, Mon n w a) : ∀ a ∈ compF n G, Mon n w a := by
  have : ∀ (G F : List (List Int)), (∀ a ∈ G, Mon n w a) → (∀ a ∈ F, Mon n w a) → ∀ a ∈ G.foldl stepC F, Mon n w a := by
    intro G
    induction G with
    | nil => exact fun F _ h => h
    | cons g G ih =>
      intro F hG hF
      exact ih _ (fun a ha => hG a (List.mem_cons_of_mem _ ha)) fun a ha => mon_step (hG g List.mem_cons_self) hF a (mem_idleL.mp ha).1
  exact this G _ hG fun a ha => by
    rw [List.mem_singleton.mp ha]
    exact (mon_zero n).mono (by omega)
theorem len_compF {n w : Nat} {G : List (List Int)} (hG : ∀ a ∈ G, Mon n w a) : (compF n G).length ≤ (w + 1) ^ n := nodup_count (ris_nodup (ris_compF n G)) (mon_compF hG)
theorem len_splitL {p g : List Int} : (splitL p g).length ≤ g.length + 1 := by
  unfold splitL
  split
  · simp
  · rw [List.length_map]
    refine Nat.le_trans (List.length_filter_le _ _) ?_
    rw [List.length_zipIdx]
    omega
def sp_holds : SpD := fun xs st Q => ∃ (p m : List Int), xs = [.d (TI p), .d (TI m)] ∧ Q (Bo (holdsB p m)) st
theorem len_holds : ∀ xs st Q, sp_holds xs st Q → xs.length = 2 := by rintro xs st Q ⟨p, m, rfl, _⟩; rfl
theorem sem_holds : ∀ xs st Q, sp_holds xs st Q → rd_holds { nx := fun _ st' => Fg Q (.d .none) st', rt := Fg Q } (startD 4 xs) st := by
  rintro xs st Q ⟨a, b, rfl, K⟩
  have e0 : startD 4 [.d (TI a), .d (TI b)] = [some (.d (TI a)), some (.d (TI b)), none, none] := rfl
  rw [e0]
  unfold rd_holds
  refine seq fun N hN => ?_
  walk_at "E"
  rw [zipD_ints]
  refine for_byT _ (fun i ε s => s = st ∧ (((a.zip b).take i).any fun z => decide (0 < z.1) && decide (z.1 ≤ z.2)) = false ∧ ∃ x y, ε = [some (.d (TI a)), some (.d (TI b)), x, y]) ⟨rfl, rfl, _, _, rfl⟩ (fun _ _ _ _ => trivial) ?_ ?_
  · rintro i p ε s hp ⟨rfl, ha, x, y, rfl⟩ L hL
    walk_at "E"
    simp only [List.map_cons, List.map_nil, List.length_cons, List.length_nil]
    walk_at "E"
    have hn : (((a.zip b).take (i + 1)).any fun z => decide (0 < z.1) && decide (z.1 ≤ z.2)) = (decide (0 < p.1) && decide (p.1 ≤ p.2)) := by
      rw [List.take_succ, hp, List.any_append, ha]
      simp
    have hh : (decide (0 < p.1) && decide (p.1 ≤ p.2)) = true → holdsB a b = true := fun h => by
      unfold holdsB
      exact List.any_eq_true.mpr ⟨p, List.mem_of_getElem? hp, h⟩
    by_cases h : 0 < p.1
    · simp only [h, decide_true, if_true, Bool.true_and] at hn hh ⊢
      walk_at "E"
      by_cases h2 : p.1 ≤ p.2
      · simp only [h2, decide_true, if_true] at hh ⊢
        rw [hh trivial] at K
        exact fg_ret K
      · simp only [h2, decide_false] at hn ⊢
        walk_at "E"
        exact hL _ _ ⟨rfl, hn, _, _, rfl⟩
    · simp only [h, decide_false, Bool.false_and] at hn ⊢
      walk_at "E"
      exact hL _ _ ⟨rfl, hn, _, _, rfl⟩
  · rintro ε s ⟨rfl, ha, x, y, rfl⟩
    refine hN _ _ ?_
    walk_at "E"
    refine fg_ret ?_
    rw [List.take_length] at ha
    have e : holdsB a b = false := ha
    rw [e] at K
    exact K
theorem take_filter_map {α β : Type} {l : List α} {i : Nat} {x : α} {p : α → Bool} {f : α → β} (h : l[i]? = some x) : ((l.take (i + 1)).filter p).map f = ((l.take i).filter p).map f ++ if p x = true then [f x] else [] := by
  rw [List.take_succ, h, List.filter_append, List.map_append]
  congr 1
  simp only [Option.toList_some, List.filter_cons, List.filter_nil]
  split <;> rfl
def sp_powers_of : SpD := fun xs st Q => ∃ (p : List Int), xs = [.d (TI p)] ∧ p.length ≤ 1000 ∧
  ∀ q st', st q = none → st' q = some (.lst (((powersL p).map TI).map .d)) → (∀ b, b ≠ q → st' b = st b) → Q (.r q) st'
theorem len_powers_of : ∀ xs st Q, sp_powers_of xs st Q → xs.length = 1 := by rintro xs st Q ⟨p, rfl, _⟩; rfl
theorem sem_powers_of : ∀ xs st Q, sp_powers_of xs st Q → rd_powers_of { nx := fun _ st' => Fg Q (.d .none) st', rt := Fg Q } (startD 5 xs) st := by
  rintro xs st Q ⟨p, rfl, hl, K⟩
  have e0 : startD 5 [.d (TI p)] = [some (.d (TI p)), none, none, none, none] := rfl
  rw [e0]
  unfold rd_powers_of
  refine seq fun N hN => ?_
  walk_at "D"
  refine ⟨by decide, fun q hq => hN _ _ ?_⟩; clear hN N
  refine seq fun N hN => ?_
  walk_at "D"
  rw [enumD_ints]
  refine for_byT _ (fun i ε s => (∃ y2 y3, ε = [some (.d (TI p)), some (.r q), y2, y3, none]) ∧ s q = some (.lst (((((p.zipIdx.take i).filter fun z => decide (0 < z.1)).map fun z => powL p.length z.2 z.1).map TI).map .d)) ∧ ∀ b, b ≠ q → s b = st b) ⟨⟨_, _, rfl⟩, up_same, fun b hb => up_ne hb⟩ (fun _ _ _ _ => trivial) ?_ ?_
  · rintro i z ε s hz ⟨⟨y2, y3, rfl⟩, hs, fr⟩ L hL
    have hi : i < p.length := by
      have := (List.getElem?_eq_some_iff.mp hz).1
      rw [List.length_zipIdx] at this
      exact this
    have hnx := take_filter_map (p := fun z : Int × Nat => decide (0 < z.1)) (f := fun z => powL p.length z.2 z.1) hz
    have hlen : ((p.zipIdx.take i).filter fun z => decide (0 < z.1)).length ≤ 1000 := Nat.le_trans (List.length_filter_le _ _) (by rw [List.length_take]; omega)
    walk_at "D"
    by_cases h : 0 < z.1
    · simp only [h, decide_true, if_true] at hnx ⊢
      walk_at "D"
      refine ⟨⟨_, hs⟩, by omega, by omega, by rw [List.length_range, sizeL]; omega, ?_⟩
      refine comp_mapT _ (fun (k : Nat) => I (if k = z.2 then z.1 else 0)) trivial _ _ ?_ ?_
      · intro k hk Q1 h2
        walk_at "D"
        by_cases e : k = z.2
        · rw [if_pos e] at h2
          have : ((k : Int) = (z.2 : Int)) = True := by simp [e]
          simp only [this, decide_true, if_true]
          walk_at "D"
          exact h2
        · rw [if_neg e] at h2
          have : ((k : Int) = (z.2 : Int)) = False := by simp; omega
          simp only [this, decide_false]
          walk_at "D"
          exact h2
      · rw [ints_dv0]
        walk_at "D"
        refine ⟨_, hs, by simp only [List.length_map, sizeL]; omega, hL _ _ ⟨⟨_, _, rfl⟩, ?_, fun b hb => by rw [up_ne hb]; exact fr b hb⟩⟩
        rw [up_same, hnx, List.map_append, List.map_append]
        rfl
    · simp only [h, decide_false] at hnx ⊢
      walk_at "D"
      rw [if_neg Bool.false_ne_true, List.append_nil] at hnx
      exact hL _ _ ⟨⟨_, _, rfl⟩, by rw [hnx]; exact hs, fr⟩
  · rintro ε s ⟨⟨y2, y3, rfl⟩, hs, fr⟩
    refine hN _ _ ?_
    walk_at "D"
    rw [List.take_of_length_le (Nat.le_refl _)] at hs
    exact fg_ret (K q s hq hs fr)
def sp_is_around : SpD := fun xs st Q => ∃ (p q : List Int), xs = [.d (TI p), .d (TI q)] ∧ q.length ≤ 1000 ∧ Q (Bo (aroundB p q)) st
theorem len_is_around : ∀ xs st Q, sp_is_around xs st Q → xs.length = 2 := by rintro xs st Q ⟨p, q, rfl, _⟩; rfl
theorem len_powersL (q : List Int) : (powersL q).length ≤ q.length := by
  unfold powersL
  rw [List.length_map]
  refine Nat.le_trans (List.length_filter_le _ _) ?_
  rw [List.length_zipIdx]
  exact Nat.le_refl _
theorem sem_is_around : ∀ xs st Q, sp_is_around xs st Q → rd_is_around sp_powers_of sp_holds { nx := fun _ st' => Fg Q (.d .none) st', rt := Fg Q } (startD 3 xs) st := by
  rintro xs st Q ⟨p, q, rfl, hl, K⟩
  have e0 : startD 3 [.d (TI p), .d (TI q)] = [some (.d (TI p)), some (.d (TI q)), none] := rfl
  rw [e0]
  unfold rd_is_around
  walk_at "D"
  refine ⟨q, rfl, hl, fun a s ha hs fr => ?_⟩
  have hp := len_powersL q
  walk_at "D"
  simp only [hs]
  refine ⟨by simp only [List.length_map, sizeL]; omega, ?_⟩
  rw [List.map_map]
  refine comp_mapT _ (fun x => Bo (holdsB p x)) (by rw [← List.map_map]; exact hs) _ _ ?_ ?_
  · intro x hx Q1 h
    walk_at "D"
    exact ⟨p, x, rfl, h⟩
  · have e1 : [] ++ (powersL q).map (fun x => Bo (holdsB p x)) = (((powersL q).map fun x => holdsB p x).map PyData.bool).map DV.d := by
      rw [List.nil_append, List.map_map, List.map_map]
      rfl
    rw [e1]
    walk_at "D"
    refine fg_le (le_up ha fr) ?_
    have e2 : ((powersL q).map fun x => holdsB p x).all id = aroundB p q := by
      rw [List.all_map]
      rfl
    rw [e2]
    exact K
def sp_without_idle : SpD := fun xs st Q => ∃ (x : DV) (S : List (List Int)) (n : Nat), xs = [x] ∧ sitems st x = some ((S.map TI).map .d) ∧ S.length < 4000 ∧ (∀ t ∈ S, t.length = n) ∧ 1 ≤ n ∧ n ≤ 1000 ∧ Q (.d (LT (idleL S))) st
theorem len_without_idle : ∀ xs st Q, sp_without_idle xs st Q → xs.length = 1 := by rintro xs st Q ⟨p, q, n, rfl, _⟩; rfl
theorem sem_without_idle : ∀ xs st Q, sp_without_idle xs st Q → rd_without_idle sp_is_around { nx := fun _ st' => Fg Q (.d .none) st', rt := Fg Q } (startD 4 xs) st := by
  rintro xs st Q ⟨x, S, n, rfl, hx, hl, hS, h1, h2, K⟩
  have e0 : startD 4 [x] = [some x, none, none, none] := rfl
  rw [e0]
  unfold rd_without_idle
  have hU : (sortU S).length < 4000 := Nat.lt_of_le_of_lt (sortU_len S) hl
  have lU : ∀ t ∈ sortU S, t.length = n := fun t ht => hS t (mem_sortU.mp ht)
  refine seq fun N hN => ?_
  walk_at "F"
  simp only [hx]
  walk_at "D"
  refine ⟨hl, ?_⟩
  refine hN _ _ ?_; clear hN N
  walk_at "D"
  refine ⟨by rw [sizeL]; omega, ?_⟩
  rw [List.map_map]
  refine comp_fmT _ (fun p => !(((sortU S).map fun q => decide (p ≠ q) && aroundB p q).any id)) (fun p => .d (TI p)) trivial _ _ ?_ ?_
  · intro p hp Q1 Q2 h
    walk_at "D"
    refine ⟨by rw [sizeL]; omega, ?_⟩
    rw [List.map_map]
    refine comp_mapT _ (fun q => Bo (decide (p ≠ q) && aroundB p q)) trivial _ _ ?_ ?_
    · intro q hq Q3 h3
      walk_at "D"
      by_cases e : p = q
      · simp only [e, decide_true, ne_eq, not_true_eq_false, decide_false, Bool.false_and] at h3 ⊢
        walk_at "D"
        exact h3
      · have e2 : (p = q) = False := by simp [e]
        simp only [e2, decide_false, ne_eq, not_false_eq_true, decide_true, Bool.true_and, Bool.not_false] at h3 ⊢
        walk_at "D"
        exact ⟨p, q, rfl, by rw [lU q hq]; omega, h3⟩
    · have e1 : [] ++ (sortU S).map (fun q => Bo (decide (p ≠ q) && aroundB p q)) = (((sortU S).map fun q => decide (p ≠ q) && aroundB p q).map PyData.bool).map DV.d := by
        rw [List.nil_append, List.map_map, List.map_map]
        rfl
      rw [e1]
      walk_at "D"
      cases e : ((sortU S).map fun q => decide (p ≠ q) && aroundB p q).any id with
      | true =>
        rw [e] at h
        walk_at "D"
        exact h
      | false =>
        rw [e] at h
        walk_at "D"
        exact h
  · rw [tis_dv0]
    walk_at "D"
    exact fg_ret K
theorem mk_appI (a b : List Int) : mkT ((a.map PyData.int).map .d ++ (b.map PyData.int).map .d) = .d (TI (a ++ b)) := by
  rw [mk_app, ← List.map_append]
theorem cut_setI (p : List Int) (i : Nat) (e : Int) (h : i < p.length) : (cutD p none (some (i : Int)) ++ [e]) ++ cutD p (some (((i + 1 : Nat)) : Int)) none = setI p i e := by
  unfold cutD setI
  rw [HT.sIx_nat, HT.sIx_none, HT.sIx_nat, HT.sIx_none, Nat.min_eq_left (by omega), Nat.min_eq_left (by omega), Nat.sub_zero, List.drop_zero, List.take_of_length_le (l := p.drop (i + 1)) (by rw [List.length_drop]; omega)]
def sp_split : SpD := fun xs st Q => ∃ (p g : List Int) (n : Nat), xs = [.d (TI p), .d (TI g)] ∧ p.length = n ∧ g.length = n ∧ n ≤ 1000 ∧
  ∀ x st', Le st st' → sitems st' x = some (((splitL p g).map TI).map .d) → Q x st'
theorem len_split : ∀ xs st Q, sp_split xs st Q → xs.length = 2 := by rintro xs st Q ⟨p, g, n, rfl, _⟩; rfl
theorem sem_split : ∀ xs st Q, sp_split xs st Q → rd_split sp_holds { nx := fun _ st' => Fg Q (.d .none) st', rt := Fg Q } (startD 5 xs) st := by
  rintro xs st Q ⟨p, g, n, rfl, hp, hg, hn, K⟩
  have e0 : startD 5 [.d (TI p), .d (TI g)] = [some (.d (TI p)), some (.d (TI g)), none, none, none] := rfl
  rw [e0]
  unfold rd_split
  refine seq fun N hN => ?_
  walk_at "D"
  refine ⟨p, g, rfl, ?_⟩
  walk_at "D"
  cases hh : holdsB p g with
  | true =>
    walk_at "D"
    refine ⟨by decide, fg_ret (K _ _ (Le.refl _) ?_)⟩
    unfold splitL
    rw [if_pos hh]
    rfl
  | false =>
    walk_at "D"
    refine hN _ _ ?_; clear hN N
    refine seq fun N hN => ?_
    walk_at "D"
    refine ⟨by decide, fun q hq => hN _ _ ?_⟩; clear hN N
    refine seq fun N hN => ?_
    walk_at "D"
    rw [enumD_ints]
    refine for_byT _ (fun i ε s => (∃ y3 y4, ε = [some (.d (TI p)), some (.d (TI g)), some (.r q), y3, y4]) ∧ s q = some (.lst (((((g.zipIdx.take i).filter fun z => decide (0 < z.1)).map fun z => setI p z.2 z.1).map TI).map .d)) ∧ ∀ b, b ≠ q → s b = st b) ⟨⟨_, _, rfl⟩, up_same, fun b hb => up_ne hb⟩ (fun _ _ _ _ => trivial) ?_ ?_
    · rintro i z ε s hz ⟨⟨y2, y3, rfl⟩, hs, fr⟩ L hL
      have hi : i < g.length := by
        have := (List.getElem?_eq_some_iff.mp hz).1
        rw [List.length_zipIdx] at this
        exact this
      have hz2 : z.2 < p.length := by
        have := (List.getElem?_eq_some_iff.mp hz).2
        rw [List.getElem_zipIdx] at this
        rw [← this]
        show 0 + i < p.length
        omega
      have hnx := take_filter_map (p := fun z : Int × Nat => decide (0 < z.1)) (f := fun z => setI p z.2 z.1) hz
      have hlen : ((g.zipIdx.take i).filter fun z => decide (0 < z.1)).length ≤ 1000 := Nat.le_trans (List.length_filter_le _ _) (by rw [List.length_take]; omega)
      walk_at "D"
      by_cases h : 0 < z.1
      · simp only [h, decide_true, if_true] at hnx ⊢
        walk_at "D"
        simp only [cutD_map]
        walk_at "D"
        have l1 := cutD_len p none (some (z.2 : Int))
        have l2 := cutD_len p (some ((z.2 : Int) + 1)) none
        refine ⟨⟨_, hs⟩, by decide, by rw [sizeL]; omega, by rw [sizeL]; omega, _, hs, by simp only [List.length_map, sizeL]; omega, hL _ _ ⟨⟨_, _, rfl⟩, ?_, fun b hb => by rw [up_ne hb]; exact fr b hb⟩⟩
        rw [up_same, hnx, mk_appI]
        rw [show ((z.2 : Int) + 1) = ((z.2 + 1 : Nat) : Int) by omega, cut_setI p z.2 z.1 hz2]
        simp only [List.map_append, List.map_cons, List.map_nil]
      · simp only [h, decide_false] at hnx ⊢
        walk_at "D"
        rw [if_neg Bool.false_ne_true, List.append_nil] at hnx
        exact hL _ _ ⟨⟨_, _, rfl⟩, by rw [hnx]; exact hs, fr⟩
    · rintro ε s ⟨⟨y2, y3, rfl⟩, hs, fr⟩
      refine hN _ _ ?_
      walk_at "D"
      rw [List.take_of_length_le (Nat.le_refl _)] at hs
      refine fg_ret (K _ s (le_up hq fr) ?_)
      unfold splitL
      rw [hh, if_neg Bool.false_ne_true]
      simp only [sitems, titems, litems, hs]
/-- generators of which the components can be made -/
def OkC (n w : Nat) (G : List (List Int)) : Prop := 1 ≤ n ∧ n ≤ 1000 ∧ (w + 1) ^ n * (n + 1) < 4000 ∧ ∀ g ∈ G, Mon n w g
def sp_components_of : SpD := fun xs st Q => ∃ (G : List (List Int)) (n w : Nat), xs = [I n, .d (TT G)] ∧ OkC n w G ∧ Q (.d (TT (compF n G))) st
theorem len_components_of : ∀ xs st Q, sp_components_of xs st Q → xs.length = 2 := by rintro xs st Q ⟨G, n, w, rfl, _⟩; rfl
theorem sem_components_of : ∀ xs st Q, sp_components_of xs st Q → rd_components_of sp_split sp_without_idle { nx := fun _ st' => Fg Q (.d .none) st', rt := Fg Q } (startD 6 xs) st := by
  rintro xs st Q ⟨G, n, w, rfl, ⟨h1, h2, hsz, hG⟩, K⟩
  have e0 : startD 6 [I n, .d (TT G)] = [some (I n), some (.d (TT G)), none, none, none, none] := rfl
  rw [e0]
  unfold rd_components_of
  have hpow : (w + 1) ^ n < 4000 := Nat.lt_of_le_of_lt (Nat.le_mul_of_pos_right _ (by omega)) hsz
  refine seq fun N hN => ?_
  walk_at "D"
  refine ⟨by decide, by simp, by omega, by omega, by decide, by decide, hN _ _ ?_⟩; clear hN N
  refine seq fun N hN => ?_
  walk_at "D"
  rw [List.map_map]
  refine for_byT _ (fun i ε s => Le st s ∧ ∃ (y3 y4 y5 : Option DV), ε = [some (I n), some (.d (TT G)), some (.d (LT (compF n (G.take i)))), y3, y4, y5]) ⟨Le.refl _, none, none, none, rfl⟩ (fun _ _ _ _ => trivial) ?_ ?_
  · rintro i g ε s hg ⟨le, y3, y4, y5, rfl⟩ L hL
    have hgM := hG g (List.mem_of_getElem? hg)
    have hT : ∀ a ∈ G.take i, Mon n w a := fun a ha => hG a (List.mem_of_mem_take ha)
    have hF := mon_compF hT
    have cF := len_compF hT
    have hnx : compF n (G.take (i + 1)) = stepC (compF n (G.take i)) g := by
      unfold compF
      rw [List.take_succ, hg, List.foldl_append]
      rfl
    generalize compF n (G.take i) = F at hF cF hnx
    have hW := mon_step hgM hF
    have cW : ∀ j, ((F.take j).flatMap fun p => splitL p g).length ≤ j * (n + 1) := by
      intro j
      induction j with
      | zero => simp
      | succ j ih =>
        rw [List.take_succ, List.flatMap_append, List.length_append, Nat.succ_mul]
        refine Nat.add_le_add ih ?_
        cases e : F[j]? with
        | none => simp
        | some p =>
          have := len_splitL (p := p) (g := g)
          rw [hgM.1] at this
          simpa using this
    refine seq fun N hN => ?_
    walk_at "D"
    refine ⟨by decide, fun q hq => hN _ _ ?_⟩; clear hN N
    refine seq fun N hN => ?_
    walk_at "D"
    rw [List.map_map]
    refine for_byT _ (fun j ε s' => Le s s' ∧ ∃ (y5 : Option DV), ε = [some (I n), some (.d (TT G)), some (.d (LT F)), some (.d (TI g)), some (.r q), y5] ∧ s' q = some (.lst ((((F.take j).flatMap fun p => splitL p g).map TI).map .d))) ⟨le_up1 hq, y5, rfl, up_same⟩ (fun _ _ _ _ => trivial) ?_ ?_
    · rintro j p ε s' hp ⟨le', y5, rfl, hs'⟩ L2 hL2
      have hj : j < F.length := (List.getElem?_eq_some_iff.mp hp).1
      have hpM := hF p (List.mem_of_getElem? hp)
      have hW2 : (F.take (j + 1)).flatMap (fun p => splitL p g) = (F.take j).flatMap (fun p => splitL p g) ++ splitL p g := by
        rw [List.take_succ, hp, List.flatMap_append]
        simp
      have hsz2 : ((F.take j).flatMap fun p => splitL p g).length + (splitL p g).length ≤ 4000 := by
        have := cW (j + 1)
        rw [hW2, List.length_append] at this
        have : (j + 1) * (n + 1) ≤ (w + 1) ^ n * (n + 1) := Nat.mul_le_mul_right _ (by omega)
        omega
      walk_at "D"
      refine ⟨⟨_, hs'⟩, p, g, n, rfl, hpM.1, hgM.1, h2, fun x s2 le2 hx => ?_⟩
      refine ⟨_, _, le2 _ _ hs', hx, by simp only [List.length_map, sizeL]; omega, hL2 _ _ ⟨(le'.trans le2).up hq, _, rfl, ?_⟩⟩
      rw [up_same, hW2, List.map_append, List.map_append]
    · rintro ε s' ⟨le', y5, rfl, hs'⟩
      refine hN _ _ ?_
      rw [List.take_length] at hs'
      walk_at "D"
      refine ⟨.r q, F.flatMap fun p => splitL p g, n, rfl, by simp only [sitems, titems, litems, hs'], ?_, fun t ht => (hW t ht).1, h1, h2, hL _ _ ⟨le.trans le', _, _, _, by rw [hnx]; rfl⟩⟩
      have := cW F.length
      rw [List.take_length] at this
      have : F.length * (n + 1) ≤ (w + 1) ^ n * (n + 1) := Nat.mul_le_mul_right _ cF
      omega
  · rintro ε s ⟨le, y3, y4, y5, rfl⟩
    refine hN _ _ ?_
    rw [List.take_length]
    have hF := mon_compF hG
    have cF := len_compF hG
    walk_at "D"
    refine ⟨alike_TIs _, sortX_TIs _, by omega, depth_TIs, ?_⟩
    rw [sort_ris (ris_compF n G)]
    walk_at "D"
    exact fg_le le K
def sp_components : SpD := fun xs st Q => ∃ (G : List (List Int)) (n w : Nat), xs = [.d (idl n G)] ∧ OkC n w G ∧ n ≤ 8 ∧ G.length ≤ 10 ∧ Q (.d (TT (compF n G))) st
theorem len_components : ∀ xs st Q, sp_components xs st Q → xs.length = 1 := by rintro xs st Q ⟨G, n, w, rfl, _⟩; rfl
theorem sem_components : ∀ xs st Q, sp_components xs st Q → rd_components sp_want_small sp_components_of { nx := fun _ st' => Fg Q (.d .none) st', rt := Fg Q } (startD 1 xs) st := by
  rintro xs st Q ⟨G, n, w, rfl, ok, h8, h10, K⟩
  have e0 : startD 1 [.d (idl n G)] = [some (.d (idl n G))] := rfl
  rw [e0]
  unfold rd_components
  refine seq fun N hN => ?_
  walk_at "D"
  refine ⟨G, n, rfl, h8, h10, hN _ _ ?_⟩; clear hN N
  walk_at "D"
  exact ⟨G, n, w, rfl, ok, fg_ret K⟩
end UC
end
section
set_option linter.all false
set_option maxRecDepth 100000
set_option maxHeartbeats 1000000
open PySem L2 DL RD UC
local macro_rules | `(tactic| walk_at "E") => `(tactic| (try simp only [qAsg, qRet, qDrop, qIfS, qTest, qAndT, qOrT, qNotT, qAndV, qOrV, qNotV, qIf, qOp, qUn, qChain, onB, qv, qc, qgN, qgT, qgCons, qgNil, qCons, qNil, qTup, qLst, qPar, qPar3, qAug, qCB, qCall, qLen, qTupleC, qListC, qMax2, qMin2, qIntC, qSum, qAny, qAll, qIsi, tyName, qAdd, qSub, qMul, qFdiv, qMod, qPow, qI2, qCmpI, qEq, qNe, qLt, qLe, qGt, qGe, qNeg, qIx, qDGet, qDIn, qDPut, qSl, qPart, qNoPart, qNext, qFor, qiSeq, qiRng1, qiRng2, qiZip, qiEnum, qLc, seqSrc, lsrc, titems, litems, sitems, fz, newL, List.getElem?_cons_zero, List.getElem?_cons_succ, List.set_cons_zero, List.set_cons_succ, if_true, if_false, Bool.false_eq_true, ite_true, ite_false, up_same, reduceIte, decide_true, decide_false, true_and, and_true]))
local macro_rules | `(tactic| walk_at "D") => `(tactic| (try simp only [qAsg, qRet, qDrop, qIfS, qTest, qAndT, qOrT, qNotT, qAndV, qOrV, qNotV, qIf, qOp, qUn, qChain, onB, qv, qc, qgN, qgT, qgCons, qgNil, qCons, qNil, qTup, qLst, qPar, qPar3, qAug, qCB, qCall, qLen, qTupleC, qListC, qMax2, qMin2, qIntC, qSum, qAny, qAll, qIsi, tyName, qAdd, qSub, qMul, qFdiv, qMod, qPow, qI2, qCmpI, qEq, qNe, qLt, qLe, qGt, qGe, qNeg, qIx, qDGet, qDIn, qDPut, qSl, qPart, qNoPart, qNext, qFor, qiSeq, qiRng1, qiRng2, qiZip, qiEnum, qLc, seqSrc, lsrc, titems, litems, sitems, fz, newL, List.getElem?_cons_zero, List.getElem?_cons_succ, List.set_cons_zero, List.set_cons_succ, if_true, if_false, Bool.false_eq_true, ite_true, ite_false, up_same, reduceIte, decide_true, decide_false, true_and, and_true, eqv_int, eqv_bool, eqv_TI, eqv_LI, eqv_TT, eqv_LT, eqv_nilL, eqv_nilT, shaped_TI, shaped_LI, shaped_TT, shaped_LT, shaped_int, shaped_bool, shaped_nilL, shaped_nilT, dints_map2, dbools_map2, datas_map, mkT_map, mkT_0, mkT_1, mkT_2, mkT_3, List.length_map, List.length_cons, List.length_nil, List.length_append, List.map_cons, List.map_nil, wipeD, Bool.not_true, Bool.not_false, eq_self, not_true_eq_false, not_false_eq_true, kitB_tt, kitB_ll, kitB_dd, kitB_bb, kitB_ib, kitB_ii, kitB_ss, kitB_tl, kitB_lt, Function.comp, datas, Option.map_some, List.cons_append, List.nil_append, CPow, le_size4, Int.toNat_natCast, rngD0, I_eq, Bo_eq, BS.qSortB, in_IT, in_IL, in_TT, in_TL, qNotN, qIsN, qSortD, qListRg, qDispT, keyX_TI, qGet, qiItems, qLockE, qLockS, qPop, qMaxDf, qLc2, qMax1, qMin1, qAppend, qExtend, tints_TI, dv_TI, Option.bind_some, qRetN, atI_0, atI_1, atI_2, mk_appT, mk_snocI, idl, rep_I, Option.map_none, eqv_idl, shaped_idl, Bool.and_self, Bool.true_and, Bool.and_true]))
local macro_rules | `(tactic| walk_at "F") => `(tactic| (try simp only [qAsg, qRet, qDrop, qIfS, qTest, qAndT, qOrT, qNotT, qAndV, qOrV, qNotV, qIf, qOp, qUn, qChain, onB, qv, qc, qgN, qgT, qgCons, qgNil, qCons, qNil, qTup, qLst, qPar, qPar3, qAug, qCB, qCall, qLen, qTupleC, qListC, qMax2, qMin2, qIntC, qSum, qAny, qAll, qIsi, tyName, qAdd, qSub, qMul, qFdiv, qMod, qPow, qI2, qCmpI, qEq, qNe, qLt, qLe, qGt, qGe, qNeg, qIx, qDGet, qDIn, qDPut, qSl, qPart, qNoPart, qNext, qFor, qiRng1, qiRng2, qiZip, qiEnum, qLc, fz, newL, List.getElem?_cons_zero, List.getElem?_cons_succ, List.set_cons_zero, List.set_cons_succ, if_true, if_false, Bool.false_eq_true, ite_true, ite_false, up_same, reduceIte, decide_true, decide_false, true_and, and_true, eqv_int, eqv_bool, eqv_TI, eqv_LI, eqv_TT, eqv_LT, eqv_nilL, eqv_nilT, shaped_TI, shaped_LI, shaped_TT, shaped_LT, shaped_int, shaped_bool, shaped_nilL, shaped_nilT, dints_map2, dbools_map2, datas_map, mkT_map, mkT_0, mkT_1, mkT_2, mkT_3, List.length_map, List.length_cons, List.length_nil, List.length_append, List.map_cons, List.map_nil, wipeD, Bool.not_true, Bool.not_false, eq_self, not_true_eq_false, not_false_eq_true, kitB_tt, kitB_ll, kitB_dd, kitB_bb, kitB_ib, kitB_ii, kitB_ss, kitB_tl, kitB_lt, Function.comp, datas, Option.map_some, List.cons_append, List.nil_append, CPow, le_size4, Int.toNat_natCast, rngD0, I_eq, Bo_eq, BS.qSortB, in_IT, in_IL, in_TT, in_TL, qNotN, qIsN, qSortD, qListRg, qDispT, keyX_TI, qGet, qiItems, qLockE, qLockS, qPop, qMaxDf, qLc2, qMax1, qMin1, qAppend, qExtend, tints_TI, dv_TI, Option.bind_some, qRetN, atI_0, atI_1, atI_2, mk_appT, mk_snocI, idl, rep_I, Option.map_none, eqv_idl, shaped_idl, Bool.and_self, Bool.true_and, Bool.and_true]))
namespace UC
open PySem L2 DL RD
end UC
end
section
set_option linter.all false
set_option maxRecDepth 100000
set_option maxHeartbeats 1000000
namespace UC
open PySem L2 DL RD
theorem nodup_map_of {α β : Type} {f : α → β} {l : List α} (nd : l.Nodup) (h : ∀ a ∈ l, ∀ b ∈ l, f a = f b → a = b) : (l.map f).Nodup :=
  List.pairwise_map.mpr (List.Pairwise.imp_of_mem (fun {a b} ha hb hne e => hne (h a ha b hb e)) nd)
theorem sortU_length {l : List (List Int)} (nd : l.Nodup) : (sortU l).length = l.length := by
  have : (sortU l).Perm l := (List.perm_ext_iff_of_nodup (ris_nodup (ris_sortU l)) nd).mpr fun x => mem_sortU
  exact this.length_eq
/-- those below a monomial, exponent by exponent -/
def Bel (n : Nat) (c a : List Int) : Prop := a.length = n ∧ ∀ j < n, 0 ≤ gd a j ∧ gd a j ≤ gd c j
theorem Bel.nn {n : Nat} {c a : List Int} (h : Bel n c a) : NN n a := nn_of_gd h.1 fun j hj => (h.2 j hj).1
theorem bel_fold {n : Nat} {c : List Int} (hc : NN n c) : ∀ (G F : List (List Int)), (∀ g ∈ G, Bel n c g) → (∀ a ∈ F, Bel n c a) → ∀ a ∈ G.foldl stepC F, Bel n c a
  | [], F, _, h => h
  | g :: G, F, hG, hF => by
    refine bel_fold hc G (stepC F g) (fun x hx => hG x (List.mem_cons_of_mem _ hx)) fun x hx => ?_
    obtain ⟨p, hp, hx⟩ := List.mem_flatMap.mp (mem_idleL.mp hx).1
    have hg := hG g List.mem_cons_self
    rcases (mem_splitL hg.1).mp hx with ⟨_, rfl⟩ | ⟨_, j, hj, _, rfl⟩
    · exact hF x hp
    · refine ⟨len_setI (hF p hp).1 hj, fun i hi => ?_⟩
      rw [gd_setI (hF p hp).1 hj hi]
      split
      · rename_i e; subst e; exact hg.2 i hi
      · exact (hF p hp).2 i hi
theorem bel_compF {n : Nat} {c : List Int} {G : List (List Int)} (hc : NN n c) (hG : ∀ g ∈ G, Bel n c g) : ∀ a ∈ compF n G, Bel n c a :=
  bel_fold hc G _ hG fun a ha => by
    rw [List.mem_singleton.mp ha]
    exact ⟨List.length_replicate .., fun j hj => by rw [gd_rep hj]; exact ⟨Int.le_refl _, hc.at hj⟩⟩
def turnL (p c : List Int) : List Int := List.zipWith (fun e t => if 0 < e then t + 1 - e else 0) p c
theorem len_turn {n : Nat} {p c : List Int} (hp : p.length = n) (hc : c.length = n) : (turnL p c).length = n := len_zw hp hc
theorem gd_turn {n j : Nat} {p c : List Int} (hp : p.length = n) (hc : c.length = n) (hj : j < n) : gd (turnL p c) j = if 0 < gd p j then gd c j + 1 - gd p j else 0 := gd_zw hp hc hj
theorem bel_turn {n : Nat} {p c : List Int} (hp : Bel n c p) (hc : NN n c) : Bel n c (turnL p c) := ⟨len_turn hp.1 hc.1, fun j hj => by
  rw [gd_turn hp.1 hc.1 hj]
  have := hp.2 j hj
  split <;> omega⟩
theorem turn_turn {n : Nat} {p c : List Int} (hp : Bel n c p) (hc : NN n c) : turnL (turnL p c) c = p := by
  have l1 := len_turn hp.1 hc.1
  rw [gd_ext (len_turn l1 hc.1) hp.1]
  intro j hj
  rw [gd_turn l1 hc.1 hj, gd_turn hp.1 hc.1 hj]
  have := hp.2 j hj
  split
  · rw [if_pos (by omega)]; omega
  · rw [if_neg (by omega)]; omega
theorem turn_div {n : Nat} {p q c : List Int} (hp : Bel n c p) (hq : Bel n c q) (hc : NN n c) : divB (turnL p c) (turnL q c) = true ↔ aroundB q p = true := by
  rw [divB_iff (len_turn hp.1 hc.1) (len_turn hq.1 hc.1), around_iff hq.1 hp.1]
  constructor
  · intro h j hj h0
    have := h j hj
    rw [gd_turn hp.1 hc.1 hj, gd_turn hq.1 hc.1 hj, if_pos h0] at this
    have a := hp.2 j hj
    have b := hq.2 j hj
    split at this <;> omega
  · intro h j hj
    rw [gd_turn hp.1 hc.1 hj, gd_turn hq.1 hc.1 hj]
    have a := hp.2 j hj
    have b := hq.2 j hj
    by_cases h0 : 0 < gd p j
    · have := h j hj h0
      rw [if_pos h0, if_pos this.1]
      omega
    · rw [if_neg h0]
      split <;> omega
theorem min_anti {S : List (List Int)} (h : ∀ s ∈ S, ∀ t ∈ S, divB s t = true → s = t) : minL S = sortU S := by
  unfold minL
  rw [List.filter_eq_self]
  intro a ha
  rw [decide_eq_true_eq, List.filter_eq_nil_iff]
  intro b hb hh
  simp only [Bool.and_eq_true, decide_eq_true_eq] at hh
  exact hh.1 (h b (mem_sortU.mp hb) a (mem_sortU.mp ha) hh.2)
def dualL (n : Nat) (G : List (List Int)) (c : List Int) : List (List Int) := minL ((compF n G).map fun p => turnL p c)
section
variable {n : Nat} {G : List (List Int)} {c : List Int}
theorem dual_anti (hc : NN n c) (hG : ∀ g ∈ G, Bel n c g) : ∀ s ∈ (compF n G).map (fun p => turnL p c), ∀ t ∈ (compF n G).map (fun p => turnL p c), divB s t = true → s = t := by
  intro s hs t ht h
  obtain ⟨p, hp, rfl⟩ := List.mem_map.mp hs
  obtain ⟨q, hq, rfl⟩ := List.mem_map.mp ht
  have b := bel_compF hc hG
  rw [(comp_compF fun g hg => (hG g hg).nn).anti q hq p hp ((turn_div (b p hp) (b q hq) hc).mp h)]
theorem dual_sort (hc : NN n c) (hG : ∀ g ∈ G, Bel n c g) : dualL n G c = sortU ((compF n G).map fun p => turnL p c) := min_anti (dual_anti hc hG)
theorem dual_nodup (hc : NN n c) (hG : ∀ g ∈ G, Bel n c g) : ((compF n G).map fun p => turnL p c).Nodup :=
  nodup_map_of (ris_nodup (ris_compF n G)) fun p hp q hq e => by
    have b := bel_compF hc hG
    rw [← turn_turn (b p hp) hc, e, turn_turn (b q hq) hc]
theorem dual_len (hc : NN n c) (hG : ∀ g ∈ G, Bel n c g) : (dualL n G c).length = (compF n G).length := by
  rw [dual_sort hc hG, sortU_length (dual_nodup hc hG), List.length_map]
theorem mem_dual (hc : NN n c) (hG : ∀ g ∈ G, Bel n c g) {d : List Int} : d ∈ dualL n G c ↔ ∃ p ∈ compF n G, turnL p c = d := by
  rw [dual_sort hc hG, mem_sortU, List.mem_map]
theorem dual_bel (hc : NN n c) (hG : ∀ g ∈ G, Bel n c g) : ∀ d ∈ dualL n G c, Bel n c d := fun d hd => by
  obtain ⟨p, hp, rfl⟩ := (mem_dual hc hG).mp hd
  exact bel_turn (bel_compF hc hG p hp) hc
/-- the components of the dual are the generators, turned -/
theorem comp_dual (hc : NN n c) (hG : ∀ g ∈ G, Bel n c g) (mG : minL G = G) : Comp n (dualL n G c) (G.map fun g => turnL g c) := by
  have C := comp_compF fun g hg => (hG g hg).nn
  have B := bel_compF hc hG
  have lG : ∀ g ∈ G, g.length = n := fun g hg => (hG g hg).1
  refine ⟨fun t ht => ?_, fun t ht d hd => ?_, fun q hq hall => ?_, fun s hs t ht h => ?_⟩
  · obtain ⟨g, hg, rfl⟩ := List.mem_map.mp ht
    exact (bel_turn (hG g hg) hc).nn
  · obtain ⟨g, hg, rfl⟩ := List.mem_map.mp ht
    obtain ⟨p, hp, rfl⟩ := (mem_dual hc hG).mp hd
    obtain ⟨j, hj, h1, h2⟩ := (holds_iff (B p hp).1 (lG g hg)).mp (C.up p hp g hg)
    have := (hG g hg).2 j hj
    refine (holds_iff (len_turn (lG g hg) hc.1) (len_turn (B p hp).1 hc.1)).mpr ⟨j, hj, ?_, ?_⟩
    · rw [gd_turn (lG g hg) hc.1 hj, if_pos (by omega)]; omega
    · rw [gd_turn (lG g hg) hc.1 hj, gd_turn (B p hp).1 hc.1 hj, if_pos (by omega), if_pos h1]; omega
  · let b : List Int := (List.range n).map fun j => if 0 < gd q j ∧ gd q j ≤ gd c j then gd c j + 1 - gd q j else 0
    have lb : b.length = n := by show (List.map _ _).length = n; rw [List.length_map, List.length_range]
    have gb : ∀ j < n, gd b j = if 0 < gd q j ∧ gd q j ≤ gd c j then gd c j + 1 - gd q j else 0 := fun j hj => by
      rw [← gd_eq (by rw [lb]; exact hj)]
      show (List.map _ _)[j] = _
      rw [List.getElem_map, List.getElem_range]
    have nb : NN n b := nn_of_gd lb fun j hj => by
      rw [gb j hj]
      split <;> omega
    have hin : inL G b = true := (C.inside lG nb).mpr fun p hp => by
      obtain ⟨j, hj, h1, h2⟩ := (holds_iff hq.1 (len_turn (B p hp).1 hc.1)).mp (hall _ ((mem_dual hc hG).mpr ⟨p, hp, rfl⟩))
      rw [gd_turn (B p hp).1 hc.1 hj] at h2
      split at h2
      · rename_i h3
        refine (holds_iff (B p hp).1 lb).mpr ⟨j, hj, h3, ?_⟩
        rw [gb j hj, if_pos (by omega)]
        omega
      · omega
    obtain ⟨g, hg, hd⟩ := inL_iff.mp hin
    refine ⟨turnL g c, List.mem_map.mpr ⟨g, hg, rfl⟩, (around_iff hq.1 (len_turn (lG g hg) hc.1)).mpr fun j hj h0 => ?_⟩
    rw [gd_turn (lG g hg) hc.1 hj] at h0 ⊢
    have := (divB_iff (lG g hg) lb).mp hd j hj
    rw [gb j hj] at this
    split at h0
    · rename_i h1
      rw [if_pos h1]
      split at this <;> omega
    · omega
  · obtain ⟨g, hg, rfl⟩ := List.mem_map.mp hs
    obtain ⟨k, hk, rfl⟩ := List.mem_map.mp ht
    have h2 : aroundB (turnL g c) (turnL k c) = true → divB k g = true := fun h => by
      have := (turn_div (bel_turn (hG k hk) hc) (bel_turn (hG g hg) hc) hc).mpr h
      rw [turn_turn (hG k hk) hc, turn_turn (hG g hg) hc] at this
      exact this
    have M := mins_minL lG
    rw [mG] at M
    rw [M.anti k hk g hg (h2 h)]
theorem comp_of_dual (hc : NN n c) (hG : ∀ g ∈ G, Bel n c g) (mG : minL G = G) : compF n (dualL n G c) = sortU (G.map fun g => turnL g c) :=
  (sortU_eq (ris_compF n _) fun x => ((comp_dual hc hG mG).same (comp_compF fun d hd => (dual_bel hc hG d hd).nn)) x).symm
end
/-- an antichain is told by all exponents but the last -/
theorem comp_anti_len {n w : Nat} {G : List (List Int)} (h1 : 1 ≤ n) (hG : ∀ g ∈ G, Mon n w g) : (compF n G).length ≤ (w + 1) ^ (n - 1) := by
  have C := comp_compF fun g hg => (hG g hg).nn
  have M := mon_compF hG
  have nd : ((compF n G).map fun p => p.take (n - 1)).Nodup := nodup_map_of (ris_nodup (ris_compF n G)) fun p hp q hq e => by
    have lp := (M p hp).1
    have lq := (M q hq).1
    have eg : ∀ j < n - 1, gd p j = gd q j := fun j hj => by
      have := congrArg (fun z => gd z j) e
      unfold gd at this ⊢
      simp only [List.getD_eq_getElem?_getD, List.getElem?_take_of_lt hj] at this
      rw [List.getD_eq_getElem?_getD, List.getD_eq_getElem?_getD]
      exact this
    have np := C.nn p hp
    have nq := C.nn q hq
    have hl := np.at (j := n - 1) (by omega)
    have hl2 := nq.at (j := n - 1) (by omega)
    by_cases h : 0 < gd p (n - 1) ∧ (gd p (n - 1) ≤ gd q (n - 1) ∨ gd q (n - 1) = 0)
    · refine C.anti p hp q hq ((around_iff lp lq).mpr fun j hj h0 => ?_)
      by_cases z : j < n - 1
      · rw [eg j z]; exact ⟨h0, Int.le_refl _⟩
      · have : j = n - 1 := by omega
        subst this
        omega
    · refine (C.anti q hq p hp ((around_iff lq lp).mpr fun j hj h0 => ?_)).symm
      by_cases z : j < n - 1
      · rw [← eg j z]; exact ⟨h0, Int.le_refl _⟩
      · have : j = n - 1 := by omega
        subst this
        omega
  have := nodup_count (n := n - 1) (w := w) nd fun a ha => by
    obtain ⟨p, hp, rfl⟩ := List.mem_map.mp ha
    refine ⟨by rw [List.length_take, (M p hp).1]; omega, fun x hx => (M p hp).2 x (List.mem_of_mem_take hx)⟩
  rw [List.length_map] at this
  exact this
end UC
end
section
set_option linter.all false
set_option maxRecDepth 100000
set_option maxHeartbeats 1000000
namespace UC
open PySem L2 DL RD
end UC
end
section
set_option linter.all false
set_option maxRecDepth 100000
set_option maxHeartbeats 1000000
open PySem L2 DL RD UC
local macro_rules | `(tactic| walk_at "E") => `(tactic| (try simp only [qAsg, qRet, qDrop, qIfS, qTest, qAndT, qOrT, qNotT, qAndV, qOrV, qNotV, qIf, qOp, qUn, qChain, onB, qv, qc, qgN, qgT, qgCons, qgNil, qCons, qNil, qTup, qLst, qPar, qPar3, qAug, qCB, qCall, qLen, qTupleC, qListC, qMax2, qMin2, qIntC, qSum, qAny, qAll, qIsi, tyName, qAdd, qSub, qMul, qFdiv, qMod, qPow, qI2, qCmpI, qEq, qNe, qLt, qLe, qGt, qGe, qNeg, qIx, qDGet, qDIn, qDPut, qSl, qPart, qNoPart, qNext, qFor, qiSeq, qiRng1, qiRng2, qiZip, qiEnum, qLc, seqSrc, lsrc, titems, litems, sitems, fz, newL, List.getElem?_cons_zero, List.getElem?_cons_succ, List.set_cons_zero, List.set_cons_succ, if_true, if_false, Bool.false_eq_true, ite_true, ite_false, up_same, reduceIte, decide_true, decide_false, true_and, and_true]))
local macro_rules | `(tactic| walk_at "D") => `(tactic| (try simp only [qAsg, qRet, qDrop, qIfS, qTest, qAndT, qOrT, qNotT, qAndV, qOrV, qNotV, qIf, qOp, qUn, qChain, onB, qv, qc, qgN, qgT, qgCons, qgNil, qCons, qNil, qTup, qLst, qPar, qPar3, qAug, qCB, qCall, qLen, qTupleC, qListC, qMax2, qMin2, qIntC, qSum, qAny, qAll, qIsi, tyName, qAdd, qSub, qMul, qFdiv, qMod, qPow, qI2, qCmpI, qEq, qNe, qLt, qLe, qGt, qGe, qNeg, qIx, qDGet, qDIn, qDPut, qSl, qPart, qNoPart, qNext, qFor, qiSeq, qiRng1, qiRng2, qiZip, qiEnum, qLc, seqSrc, lsrc, titems, litems, sitems, fz, newL, List.getElem?_cons_zero, List.getElem?_cons_succ, List.set_cons_zero, List.set_cons_succ, if_true, if_false, Bool.false_eq_true, ite_true, ite_false, up_same, reduceIte, decide_true, decide_false, true_and, and_true, eqv_int, eqv_bool, eqv_TI, eqv_LI, eqv_TT, eqv_LT, eqv_nilL, eqv_nilT, shaped_TI, shaped_LI, shaped_TT, shaped_LT, shaped_int, shaped_bool, shaped_nilL, shaped_nilT, dints_map2, dbools_map2, datas_map, mkT_map, mkT_0, mkT_1, mkT_2, mkT_3, List.length_map, List.length_cons, List.length_nil, List.length_append, List.map_cons, List.map_nil, wipeD, Bool.not_true, Bool.not_false, eq_self, not_true_eq_false, not_false_eq_true, kitB_tt, kitB_ll, kitB_dd, kitB_bb, kitB_ib, kitB_ii, kitB_ss, kitB_tl, kitB_lt, Function.comp, datas, Option.map_some, List.cons_append, List.nil_append, CPow, le_size4, Int.toNat_natCast, rngD0, I_eq, Bo_eq, BS.qSortB, in_IT, in_IL, in_TT, in_TL, qNotN, qIsN, qSortD, qListRg, qDispT, keyX_TI, qGet, qiItems, qLockE, qLockS, qPop, qMaxDf, qLc2, qMax1, qMin1, qAppend, qExtend, tints_TI, dv_TI, Option.bind_some, qRetN, atI_0, atI_1, atI_2, mk_appT, mk_snocI, idl, rep_I, Option.map_none, eqv_idl, shaped_idl, Bool.and_self, Bool.true_and, Bool.and_true]))
local macro_rules | `(tactic| walk_at "F") => `(tactic| (try simp only [qAsg, qRet, qDrop, qIfS, qTest, qAndT, qOrT, qNotT, qAndV, qOrV, qNotV, qIf, qOp, qUn, qChain, onB, qv, qc, qgN, qgT, qgCons, qgNil, qCons, qNil, qTup, qLst, qPar, qPar3, qAug, qCB, qCall, qLen, qTupleC, qListC, qMax2, qMin2, qIntC, qSum, qAny, qAll, qIsi, tyName, qAdd, qSub, qMul, qFdiv, qMod, qPow, qI2, qCmpI, qEq, qNe, qLt, qLe, qGt, qGe, qNeg, qIx, qDGet, qDIn, qDPut, qSl, qPart, qNoPart, qNext, qFor, qiRng1, qiRng2, qiZip, qiEnum, qLc, fz, newL, List.getElem?_cons_zero, List.getElem?_cons_succ, List.set_cons_zero, List.set_cons_succ, if_true, if_false, Bool.false_eq_true, ite_true, ite_false, up_same, reduceIte, decide_true, decide_false, true_and, and_true, eqv_int, eqv_bool, eqv_TI, eqv_LI, eqv_TT, eqv_LT, eqv_nilL, eqv_nilT, shaped_TI, shaped_LI, shaped_TT, shaped_LT, shaped_int, shaped_bool, shaped_nilL, shaped_nilT, dints_map2, dbools_map2, datas_map, mkT_map, mkT_0, mkT_1, mkT_2, mkT_3, List.length_map, List.length_cons, List.length_nil, List.length_append, List.map_cons, List.map_nil, wipeD, Bool.not_true, Bool.not_false, eq_self, not_true_eq_false, not_false_eq_true, kitB_tt, kitB_ll, kitB_dd, kitB_bb, kitB_ib, kitB_ii, kitB_ss, kitB_tl, kitB_lt, Function.comp, datas, Option.map_some, List.cons_append, List.nil_append, CPow, le_size4, Int.toNat_natCast, rngD0, I_eq, Bo_eq, BS.qSortB, in_IT, in_IL, in_TT, in_TL, qNotN, qIsN, qSortD, qListRg, qDispT, keyX_TI, qGet, qiItems, qLockE, qLockS, qPop, qMaxDf, qLc2, qMax1, qMin1, qAppend, qExtend, tints_TI, dv_TI, Option.bind_some, qRetN, atI_0, atI_1, atI_2, mk_appT, mk_snocI, idl, rep_I, Option.map_none, eqv_idl, shaped_idl, Bool.and_self, Bool.true_and, Bool.and_true]))
namespace UC
open PySem L2 DL RD
abbrev cutS (A : List (List Int)) (f : List Int) : List (List Int) := A.map fun a => cutL a f
end UC
end
section
set_option linter.all false
set_option maxRecDepth 100000
set_option maxHeartbeats 1000000
namespace UC
open PySem L2 DL RD
theorem gd_map {a : List Int} {f : Int → Int} {n j : Nat} (ha : a.length = n) (hj : j < n) : gd (a.map f) j = f (gd a j) := by
  have h : j < a.length := by rw [ha]; exact hj
  rw [← gd_eq (a := a.map f) (by rw [List.length_map]; exact h), ← gd_eq h, List.getElem_map]
section
variable {n : Nat} {A B : List (List Int)} {st : Sto} {Q : DV → Sto → Prop}
abbrev J (n : Nat) (A : List (List Int)) : Prop := Idl n ((3 : Nat) : Int) 49 A
end
end UC
end
section
set_option linter.all false
set_option maxRecDepth 100000
set_option maxHeartbeats 1000000
namespace UC
open PySem L2 DL RD
def Unit1 (n : Nat) (q : List Int) : Prop := q.length = n ∧ ∀ j < n, gd q j = 0 ∨ gd q j = 1
theorem Unit1.nn {n : Nat} {q : List Int} (h : Unit1 n q) : NN n q := nn_of_gd h.1 fun j hj => by rcases h.2 j hj with e | e <;> omega
/-- how many exponents are positive -/
def posL (p : List Int) : Nat := (p.filter fun x => decide (0 < x)).length
theorem pos_le {n : Nat} {p q : List Int} (hp : p.length = n) (hq : q.length = n) (h : ∀ j < n, 0 < gd p j → 0 < gd q j) : posL p ≤ posL q := by
  have key : ∀ (p q : List Int), p.length = q.length → (∀ j < p.length, 0 < gd p j → 0 < gd q j) → posL p ≤ posL q := by
    intro p
    induction p with
    | nil => intro q _ _; simp [posL]
    | cons x p ih =>
      intro q hl h
      cases q with
      | nil => simp at hl
      | cons y q =>
        have := ih q (by simpa using hl) fun j hj h0 => h (j + 1) (by simp; omega) h0
        have h0 := h 0 (by simp)
        simp only [gd, List.getD_cons_zero] at h0
        unfold posL at this ⊢
        rw [List.filter_cons, List.filter_cons]
        by_cases a : 0 < x
        · rw [if_pos (by simpa using a), if_pos (by simpa using h0 a)]
          simp only [List.length_cons]
          omega
        · rw [if_neg (by simpa using a)]
          split
          · simp only [List.length_cons]; omega
          · exact this
  exact key p q (hp.trans hq.symm) fun j hj => h j (by omega)
def coverB (G : List (List Int)) (q : List Int) : Prop := ∀ g ∈ G, holdsB q g = true
def unitL (p : List Int) : List Int := p.map fun x => if 0 < x then 1 else 0
theorem unit_ok {n : Nat} {p : List Int} (hp : p.length = n) : Unit1 n (unitL p) ∧ (∀ j < n, 0 < gd (unitL p) j ↔ 0 < gd p j) := by
  have g : ∀ j < n, gd (unitL p) j = if 0 < gd p j then 1 else 0 := fun j hj => gd_map hp hj
  refine ⟨⟨by unfold unitL; rw [List.length_map]; exact hp, fun j hj => ?_⟩, fun j hj => ?_⟩
  · rw [g j hj]; split <;> simp
  · rw [g j hj]; split <;> simp_all
/-- the least number of variables of a component is that of a set that meets all generators -/
structure MinCov (n : Nat) (G : List (List Int)) (m : Nat) : Prop where
  ex : ∃ q, Unit1 n q ∧ coverB G q ∧ posL q = m
  le : ∀ q, Unit1 n q → coverB G q → m ≤ posL q
theorem mincov_comp {n m : Nat} {G : List (List Int)} (hG : NNs n G) (h1 : ∃ p ∈ compF n G, posL p = m) (h2 : ∀ p ∈ compF n G, m ≤ posL p) : MinCov n G m := by
  have C := comp_compF hG
  constructor
  · obtain ⟨p, hp, e⟩ := h1
    have lp := (C.nn p hp).1
    obtain ⟨u1, u2⟩ := unit_ok lp
    refine ⟨unitL p, u1, fun g hg => ?_, ?_⟩
    · obtain ⟨j, hj, h3, h4⟩ := (holds_iff lp (hG g hg).1).mp (C.up p hp g hg)
      have := (u2 j hj).mpr h3
      refine (holds_iff u1.1 (hG g hg).1).mpr ⟨j, hj, this, ?_⟩
      rcases u1.2 j hj with z | z <;> omega
    · have a := pos_le u1.1 lp fun j hj => (u2 j hj).mp
      have b := pos_le lp u1.1 fun j hj => (u2 j hj).mpr
      omega
  · intro q hq hc
    obtain ⟨p, hp, h⟩ := C.all q hq.nn hc
    exact Nat.le_trans (h2 p hp) (pos_le (C.nn p hp).1 hq.1 fun j hj h0 => ((around_iff hq.1 (C.nn p hp).1).mp h j hj h0).1)
end UC
end
section
set_option linter.all false
set_option maxRecDepth 100000
set_option maxHeartbeats 1000000
namespace UC
open PySem L2 DL RD
theorem mem_supp {n : Nat} {p : List Int} (hp : p.length = n) {x : Int} : x ∈ suppL p ↔ ∃ j < n, 0 < gd p j ∧ x = (j : Int) := by
  unfold suppL
  rw [zipIdx_range, hp]
  simp only [List.mem_map, List.mem_filter, List.mem_range, decide_eq_true_eq]
  constructor
  · rintro ⟨z, ⟨⟨j, hj, rfl⟩, h⟩, rfl⟩
    exact ⟨j, hj, h, rfl⟩
  · rintro ⟨j, hj, h, rfl⟩
    exact ⟨_, ⟨⟨j, hj, rfl⟩, h⟩, rfl⟩
theorem supp_filter {n : Nat} {p : List Int} (hp : p.length = n) : suppL p = ((List.range n).filter fun j => decide (0 < gd p j)).map fun (j : Nat) => (j : Int) := by
  unfold suppL
  rw [zipIdx_range, hp, List.filter_map, List.map_map]
  rfl
/-- whether the second one's support lies in that of the first one -/
def subS (one other : List Int) : Bool := other.all fun k => decide (k ∈ one)
/-- those that contain no other one -/
def minP (L : List (List Int)) : List (List Int) := L.filter fun p => decide (L.filter (fun o => decide (o ≠ p) && subS p o) = [])
theorem mem_minP {L : List (List Int)} {p : List Int} : p ∈ minP L ↔ p ∈ L ∧ ∀ o ∈ L, subS p o = true → o = p := by
  unfold minP
  rw [List.mem_filter, decide_eq_true_eq, List.filter_eq_nil_iff]
  refine and_congr_right fun _ => forall_congr' fun o => forall_congr' fun _ => ?_
  simp only [Bool.and_eq_true, decide_eq_true_eq, not_and]
  constructor
  · intro h h2
    exact Classical.byContradiction fun hne => h hne h2
  · intro h hne h2
    exact hne (h h2)
def primesF (n : Nat) (G : List (List Int)) : List (List Int) := sortU ((compF n G).map suppL)
theorem mem_primesF {n : Nat} {G : List (List Int)} {s : List Int} : s ∈ primesF n G ↔ ∃ p ∈ compF n G, suppL p = s := by
  unfold primesF
  rw [mem_sortU, List.mem_map]
end UC
end
section
set_option linter.all false
set_option maxRecDepth 100000
set_option maxHeartbeats 1000000
namespace UC
open PySem L2 DL RD
def subsL (xs : List Int) : List (List Int) := xs.foldl (fun F x => F ++ F.map fun a => a ++ [x]) [[]]
theorem subs_snoc (xs : List Int) (x : Int) : subsL (xs ++ [x]) = subsL xs ++ (subsL xs).map fun a => a ++ [x] := by
  unfold subsL
  rw [List.foldl_append]
  rfl
theorem mem_subs {xs l : List Int} : l ∈ subsL xs ↔ l.Sublist xs := by
  have key : ∀ (ts pre : List Int) (F : List (List Int)), (∀ l, l ∈ F ↔ l.Sublist pre) → ∀ l, l ∈ ts.foldl (fun F x => F ++ F.map fun a => a ++ [x]) F ↔ l.Sublist (pre ++ ts) := by
    intro ts
    induction ts with
    | nil => intro pre F h l; rw [List.append_nil]; exact h l
    | cons t ts ih =>
      intro pre F h l
      rw [List.foldl_cons, show pre ++ t :: ts = (pre ++ [t]) ++ ts by simp]
      refine ih (pre ++ [t]) _ (fun m => ?_) l
      rw [List.mem_append, List.mem_map, List.sublist_append_iff]
      constructor
      · rintro (hm | ⟨a, ha, rfl⟩)
        · exact ⟨m, [], by simp, (h m).mp hm, List.nil_sublist _⟩
        · exact ⟨a, [t], rfl, (h a).mp ha, List.Sublist.refl _⟩
      · rintro ⟨l1, l2, rfl, h1, h2⟩
        cases l2 with
        | nil => exact .inl (by rw [List.append_nil]; exact (h l1).mpr h1)
        | cons y r =>
          have hl := h2.length_le
          simp only [List.length_cons, List.length_nil] at hl
          have hr : r = [] := List.eq_nil_of_length_eq_zero (by omega)
          subst hr
          have : y = t := by
            have := h2.subset (List.mem_singleton.mpr rfl)
            exact List.mem_singleton.mp this
          subst this
          exact .inr ⟨l1, (h l1).mpr h1, rfl⟩
  have := key xs [] [[]] (fun l => by simp [List.sublist_nil]) l
  rw [List.nil_append] at this
  exact this
theorem len_subs (xs : List Int) : (subsL xs).length = 2 ^ xs.length := by
  have key : ∀ (ts : List Int) (F : List (List Int)), (ts.foldl (fun F x => F ++ F.map fun a => a ++ [x]) F).length = F.length * 2 ^ ts.length := by
    intro ts
    induction ts with
    | nil => intro F; simp
    | cons t ts ih =>
      intro F
      rw [List.foldl_cons, ih, List.length_append, List.length_map, List.length_cons, Nat.pow_succ, Nat.mul_comm (2 ^ ts.length) 2, ← Nat.mul_assoc]
      congr 1
      omega
  have := key xs [[]]
  unfold subsL
  rw [this]
  simp
abbrev rangeI (n : Nat) : List Int := (List.range n).map fun (k : Nat) => (k : Int)
theorem nodup_rangeI (n : Nat) : (rangeI n).Nodup := nodup_map_of List.nodup_range fun a _ b _ e => by
  have : (a : Int) = (b : Int) := e
  omega
end UC
end
section
set_option Elab.async false
set_option linter.all false
set_option maxRecDepth 100000
set_option maxHeartbeats 2000000
namespace L2
open PySem PySem.Spec PyProof.Rows
end L2
namespace DL
open PySem PySem.Spec L2 PyProof.Rows
section
variable {P : Program} {w : World} {K : PySem.W.Frag} {mg : Str → Option Value} {base : Heap} {X : Cx} {N : List Str} {sc fs : Scope} {k : Nat}
/-- xs[i] = v -/
def qLPut (to ti tv : TD) : TDs := fun D ε st => tv ε st fun v s1 => to ε s1 fun x s2 => ti ε s2 fun y s3 => match x, y with
  | .r a, .d (.int i) => ∃ xs j, s3 a = some (.lst xs) ∧ ixN xs.length i = some j ∧ D.nx ε (up s3 a (.lst (xs.set j v)))
  | _, _ => False
end
end DL
end
section
set_option Elab.async false
set_option linter.all false
set_option maxRecDepth 100000
set_option maxHeartbeats 2000000
namespace L2
open PySem PySem.Spec PyProof.Rows
end L2
namespace DL
open PySem PySem.Spec L2 PyProof.Rows
end DL
end
section
set_option Elab.async false
set_option linter.all false
set_option maxRecDepth 100000
set_option maxHeartbeats 2000000
namespace L2
open PySem PySem.Spec PyProof.Rows
/-- a promise that is kept where no guard stands -/
structure FnG (P : Program) (w : World) (K : PySem.W.Frag) (mg : Str → Option Value) (bs : Heap) (k : Nat) (f : Addr) (fd : FuncData) (ps : List Str) (sp : Sp) : Prop where
  lenG : ∀ vs H Q E, sp vs H Q E → vs.length = ps.length
  runG : ∀ (A : Around) (out : List Env) (s : Shared) (H : Hp) (ar : Args) (us : List Value) (vs : List V) (Q : VK) (E : XK), A.guards = some [] → Room k A → Env0 P w K mg bs A out s H → BindsTo s fd ar (ps.zip us) →
    Vals vs us → sp vs H Q E → codeAny (model P w) A (.call (.ref f) ar) (CR CX0 out P w H s Q E) s
end L2
end
section
set_option Elab.async false
set_option linter.all false
set_option maxRecDepth 100000
set_option maxHeartbeats 2000000
namespace DL
open PySem PySem.Spec L2 PyProof.Rows
section
variable {P : Program} {w : World} {K : PySem.W.Frag} {mg : Str → Option Value} {base : Heap} {X : Cx} {N : List Str} {sc fs : Scope} {k : Nat}
def reprOk (d : PyData) : Prop := d.showable = true ∧ d.hasDict = false ∧ d.depth ≤ 16 ∧ d.shown.length ≤ sizeLine
end
end DL
end
section
set_option Elab.async false
set_option linter.all false
set_option maxRecDepth 100000
set_option maxHeartbeats 2000000
namespace L2
open PySem PySem.Spec PyProof.Rows
section
variable {X : Cx} {CX : CXT} {k j : Nat} {f : Addr} {fd : FuncData} {ps : List Str} {sp : Sp} {x : Str} {p pos : Pos} {e : Expr} {es : List Expr} {t : TA}
theorem FnG.mono {P : Program} {w : World} {K : PySem.W.Frag} {mg : Str → Option Value} {base : Heap} (F : FnG P w K mg base j f fd ps sp) (h : j ≤ k) : FnG P w K mg base k f fd ps sp :=
  ⟨F.lenG, fun A outer s H args us vs Q E hg hr => F.runG A outer s H args us vs Q E hg (hr.mono h)⟩
end
end L2
namespace DL
open PySem PySem.Spec L2 PyProof.Rows
end DL
end
section
set_option Elab.async false
set_option linter.all false
set_option maxRecDepth 100000
set_option maxHeartbeats 2000000
namespace L2
open PySem PySem.Spec PyProof.Rows
end L2
namespace DL
open PySem PySem.Spec L2 PyProof.Rows
theorem asc_ext : ∀ {a b : List Int}, a.Pairwise (· < ·) → b.Pairwise (· < ·) → (∀ x, x ∈ a ↔ x ∈ b) → a = b
  | [], [], _, _, _ => rfl
  | [], y :: b, _, _, h => absurd ((h y).mpr List.mem_cons_self) List.not_mem_nil
  | x :: a, [], _, _, h => absurd ((h x).mp List.mem_cons_self) List.not_mem_nil
  | x :: a, y :: b, ha, hb, h => by
    obtain ⟨a1, a2⟩ := List.pairwise_cons.mp ha
    obtain ⟨b1, b2⟩ := List.pairwise_cons.mp hb
    have e : x = y := by
      rcases List.mem_cons.mp ((h x).mp List.mem_cons_self) with q | q
      · exact q
      · rcases List.mem_cons.mp ((h y).mpr List.mem_cons_self) with r | r
        · exact r.symm
        · have := b1 x q
          have := a1 y r
          omega
    subst e
    congr 1
    refine asc_ext a2 b2 fun z => ⟨fun hz => ?_, fun hz => ?_⟩
    · rcases List.mem_cons.mp ((h z).mp (List.mem_cons_of_mem _ hz)) with q | q
      · have := a1 z hz
        omega
      · exact q
    · rcases List.mem_cons.mp ((h z).mpr (List.mem_cons_of_mem _ hz)) with q | q
      · have := b1 z hz
        omega
      · exact q
end DL
end
section
set_option linter.all false
set_option maxRecDepth 100000
set_option maxHeartbeats 1000000
namespace UC
open PySem L2 DL RD
abbrev Asc (a : List Int) : Prop := a.Pairwise (· < ·)
def insB (a b : List Int) : Bool := a.all fun x => decide (x ∈ b)
theorem insB_iff {a b : List Int} : insB a b = true ↔ ∀ x ∈ a, x ∈ b := by simp [insB]
theorem insB_refl (a : List Int) : insB a a = true := insB_iff.mpr fun _ h => h
theorem insB_tr {a b c : List Int} (h1 : insB a b = true) (h2 : insB b c = true) : insB a c = true := insB_iff.mpr fun x hx => insB_iff.mp h2 x (insB_iff.mp h1 x hx)
theorem asc_sub : ∀ {b a : List Int}, Asc a → Asc b → (∀ x ∈ a, x ∈ b) → a.Sublist b
  | [], a, _, _, h => by
    cases a with
    | nil => exact List.Sublist.refl _
    | cons x a => exact absurd (h x List.mem_cons_self) List.not_mem_nil
  | y :: b, [], _, _, _ => List.nil_sublist _
  | y :: b, x :: a, ha, hb, h => by
    obtain ⟨a1, a2⟩ := List.pairwise_cons.mp ha
    obtain ⟨b1, b2⟩ := List.pairwise_cons.mp hb
    by_cases e : x = y
    · subst e
      refine List.Sublist.cons₂ _ (asc_sub a2 b2 fun z hz => ?_)
      rcases List.mem_cons.mp (h z (List.mem_cons_of_mem _ hz)) with q | q
      · have := a1 z hz
        omega
      · exact q
    · have hx : x ∈ b := (List.mem_cons.mp (h x List.mem_cons_self)).resolve_left e
      have hyx := b1 x hx
      refine List.Sublist.cons _ (asc_sub ha b2 fun z hz => ?_)
      rcases List.mem_cons.mp (h z hz) with q | q
      · rcases List.mem_cons.mp hz with r | r
        · omega
        · have := a1 z r
          omega
      · exact q
theorem asc_len {a b : List Int} (ha : Asc a) (hb : Asc b) (h : insB a b = true) (hn : b ≠ a) : a.length < b.length := by
  have s := asc_sub ha hb (insB_iff.mp h)
  rcases Nat.lt_or_ge a.length b.length with c | c
  · exact c
  · exact absurd (s.eq_of_length (Nat.le_antisymm s.length_le c)).symm hn
/-- no set of numbers below v is longer -/
theorem asc_long {v : Nat} {a : List Int} (ha : Asc a) (hl : ∀ x ∈ a, 0 ≤ x ∧ x < v) : a.length ≤ v := by
  have hb : Asc (rangeI v) := by
    show List.Pairwise (· < ·) ((List.range v).map fun (k : Nat) => (k : Int))
    rw [List.pairwise_map]
    exact List.Pairwise.imp (fun h => by omega) List.pairwise_lt_range
  have := (asc_sub ha hb fun x hx => by
    have := hl x hx
    unfold rangeI
    exact List.mem_map.mpr ⟨x.toNat, List.mem_range.mpr (by omega), by omega⟩).length_le
  simpa [rangeI] using this
def dif (f a : List Int) : List Int := f.filter fun x => !decide (x ∈ a)
theorem mem_dif {f a : List Int} {x : Int} : x ∈ dif f a ↔ x ∈ f ∧ x ∉ a := by
  unfold dif
  rw [List.mem_filter, Bool.not_eq_true', decide_eq_false_iff_not]
theorem asc_dif {f a : List Int} (h : Asc f) : Asc (dif f a) := h.sublist List.filter_sublist
end UC
end
section
set_option linter.all false
set_option maxRecDepth 100000
set_option maxHeartbeats 1000000
namespace UC
open PySem L2 DL RD
abbrev Tab := List (List Int × Int)
def evT (f : List Int → Int) : Tab → Int
  | [] => 0
  | p :: T => p.2 * f p.1 + evT f T
theorem ev_cong {f g : List Int → Int} : ∀ {T : Tab}, (∀ p ∈ T, f p.1 = g p.1) → evT f T = evT g T
  | [], _ => rfl
  | p :: T, h => by
    rw [evT, evT, h p List.mem_cons_self, ev_cong (T := T) fun q hq => h q (List.mem_cons_of_mem _ hq)]
theorem ev_zero : ∀ T : Tab, evT (fun _ => 0) T = 0
  | [] => rfl
  | p :: T => by rw [evT, ev_zero T, Int.mul_zero]; rfl
abbrev keysZ (T : Tab) : List (List Int) := T.map (·.1)
def chi (b a : List Int) : Int := if divB a b = true then 1 else 0
structure Canon (n : Nat) (P : Tab) : Prop where
  ris : RisL (keysZ P)
  nn : ∀ p ∈ P, NN n p.1
  nz : ∀ p ∈ P, p.2 ≠ 0
theorem chi_above {n : Nat} {a b : List Int} (ha : a.length = n) (hb : b.length = n) (h : lexL a b = true) : chi a b = 0 := by
  refine if_neg fun z => ?_
  rcases divB_lex (hb.trans ha.symm) z with e | e
  · rw [e, lexL_irr] at h; cases h
  · have := lexL_tr e h; rw [lexL_irr] at this; cases this
theorem ev_above {n : Nat} {a : List Int} (ha : a.length = n) {P : Tab} (hP : ∀ p ∈ P, NN n p.1 ∧ lexL a p.1 = true) : evT (chi a) P = 0 := by
  rw [ev_cong (g := fun _ => 0) fun p hp => chi_above ha (hP p hp).1.1 (hP p hp).2, ev_zero]
theorem Canon.below {n : Nat} {a : List Int} (ha : NN n a) {p : List Int × Int} {P : Tab} (h : Canon n (p :: P)) (hl : lexL a p.1 = true) : evT (chi a) (p :: P) = 0 := by
  refine ev_above ha.1 fun q hq => ⟨h.nn q hq, ?_⟩
  rcases List.mem_cons.mp hq with rfl | hq
  · exact hl
  · exact lexL_tr hl ((List.pairwise_cons.mp h.ris).1 _ (List.mem_map.mpr ⟨q, hq, rfl⟩))
end UC
end
section
set_option linter.all false
set_option maxRecDepth 100000
set_option maxHeartbeats 1000000
namespace UC
open PySem L2 DL RD
def degR : Nat → Nat → List (List Int)
  | 0, d => if d = 0 then [[]] else []
  | n + 1, d => (List.range (d + 1)).flatMap fun j => (degR n j).map fun a => ((d - j : Nat) : Int) :: a
def cntD (n d : Nat) : Nat := (degR n d).length
def hC (n d : Nat) (m : Int) : Int := if m ≤ d then (cntD n (d - m).toNat : Int) else 0
end UC
end
section
set_option linter.all false
set_option maxRecDepth 100000
set_option maxHeartbeats 1000000
namespace UC
open PySem L2 DL RD
def pairP (p : List Int × Int) : PyData := .tuple [TI p.1, .int p.2]
abbrev PT (P : Tab) : PyData := .tuple (P.map pairP)
def putK (S : List (Int × Int)) (a v : Int) : List (Int × Int) := if (S.any fun p => decide (p.1 = a)) = true then S.map fun p => if p.1 = a then (p.1, v) else p else S ++ [(a, v)]
end UC
end
section
set_option linter.all false
set_option maxRecDepth 100000
set_option maxHeartbeats 1000000
namespace UC
open PySem L2 DL RD
def bs (f : List Int → Int) : List Int → Int
  | [] => 0
  | x :: a => f a - bs (fun b => f (x :: b)) a
end UC
end
section
set_option linter.all false
set_option maxRecDepth 100000
set_option maxHeartbeats 1000000
namespace UC
open PySem L2 DL RD
abbrev Low (v : Nat) (a : List Int) : Prop := ∀ x ∈ a, 0 ≤ x ∧ x < (v : Int)
theorem mem_rngV {v : Nat} {x : Int} : x ∈ rangeI v ↔ 0 ≤ x ∧ x < (v : Int) := by
  unfold rangeI
  rw [List.mem_map]
  constructor
  · rintro ⟨j, hj, rfl⟩
    rw [List.mem_range] at hj
    omega
  · intro h
    exact ⟨x.toNat, List.mem_range.mpr (by omega), by omega⟩
theorem asc_rngV (v : Nat) : Asc (rangeI v) := by
  show List.Pairwise (· < ·) ((List.range v).map fun (k : Nat) => (k : Int))
  rw [List.pairwise_map]
  exact List.Pairwise.imp (fun h => by omega) List.pairwise_lt_range
end UC
end
section
set_option linter.all false
set_option maxRecDepth 100000
set_option maxHeartbeats 1000000
open PySem L2 DL RD UC
local macro_rules | `(tactic| walk_at "E") => `(tactic| (try simp only [qAsg, qRet, qDrop, qIfS, qTest, qAndT, qOrT, qNotT, qAndV, qOrV, qNotV, qIf, qOp, qUn, qChain, onB, qv, qc, qgN, qgT, qgCons, qgNil, qCons, qNil, qTup, qLst, qPar, qPar3, qAug, qCB, qCall, qLen, qTupleC, qListC, qMax2, qMin2, qIntC, qSum, qAny, qAll, qIsi, tyName, qAdd, qSub, qMul, qFdiv, qMod, qPow, qI2, qCmpI, qEq, qNe, qLt, qLe, qGt, qGe, qNeg, qIx, qDGet, qDIn, qDPut, qSl, qPart, qNoPart, qNext, qFor, qiSeq, qiRng1, qiRng2, qiZip, qiEnum, qLc, seqSrc, lsrc, titems, litems, sitems, fz, newL, List.getElem?_cons_zero, List.getElem?_cons_succ, List.set_cons_zero, List.set_cons_succ, if_true, if_false, Bool.false_eq_true, ite_true, ite_false, up_same, reduceIte, decide_true, decide_false, true_and, and_true]))
local macro_rules | `(tactic| walk_at "D") => `(tactic| (try simp only [qAsg, qRet, qDrop, qIfS, qTest, qAndT, qOrT, qNotT, qAndV, qOrV, qNotV, qIf, qOp, qUn, qChain, onB, qv, qc, qgN, qgT, qgCons, qgNil, qCons, qNil, qTup, qLst, qPar, qPar3, qAug, qCB, qCall, qLen, qTupleC, qListC, qMax2, qMin2, qIntC, qSum, qAny, qAll, qIsi, tyName, qAdd, qSub, qMul, qFdiv, qMod, qPow, qI2, qCmpI, qEq, qNe, qLt, qLe, qGt, qGe, qNeg, qIx, qDGet, qDIn, qDPut, qSl, qPart, qNoPart, qNext, qFor, qiSeq, qiRng1, qiRng2, qiZip, qiEnum, qLc, seqSrc, lsrc, titems, litems, sitems, fz, newL, List.getElem?_cons_zero, List.getElem?_cons_succ, List.set_cons_zero, List.set_cons_succ, if_true, if_false, Bool.false_eq_true, ite_true, ite_false, up_same, reduceIte, decide_true, decide_false, true_and, and_true, eqv_int, eqv_bool, eqv_TI, eqv_LI, eqv_TT, eqv_LT, eqv_nilL, eqv_nilT, shaped_TI, shaped_LI, shaped_TT, shaped_LT, shaped_int, shaped_bool, shaped_nilL, shaped_nilT, dints_map2, dbools_map2, datas_map, mkT_map, mkT_0, mkT_1, mkT_2, mkT_3, List.length_map, List.length_cons, List.length_nil, List.length_append, List.map_cons, List.map_nil, wipeD, Bool.not_true, Bool.not_false, eq_self, not_true_eq_false, not_false_eq_true, kitB_tt, kitB_ll, kitB_dd, kitB_bb, kitB_ib, kitB_ii, kitB_ss, kitB_tl, kitB_lt, Function.comp, datas, Option.map_some, List.cons_append, List.nil_append, CPow, le_size4, Int.toNat_natCast, rngD0, I_eq, Bo_eq, BS.qSortB, in_IT, in_IL, in_TT, in_TL, qNotN, qIsN, qSortD, qListRg, qDispT, keyX_TI, qGet, qiItems, qLockE, qLockS, qPop, qMaxDf, qLc2, qMax1, qMin1, qAppend, qExtend, tints_TI, dv_TI, Option.bind_some, qRetN, atI_0, atI_1, atI_2, mk_appT, mk_snocI, idl, rep_I, Option.map_none, eqv_idl, shaped_idl, Bool.and_self, Bool.true_and, Bool.and_true]))
local macro_rules | `(tactic| walk_at "F") => `(tactic| (try simp only [qAsg, qRet, qDrop, qIfS, qTest, qAndT, qOrT, qNotT, qAndV, qOrV, qNotV, qIf, qOp, qUn, qChain, onB, qv, qc, qgN, qgT, qgCons, qgNil, qCons, qNil, qTup, qLst, qPar, qPar3, qAug, qCB, qCall, qLen, qTupleC, qListC, qMax2, qMin2, qIntC, qSum, qAny, qAll, qIsi, tyName, qAdd, qSub, qMul, qFdiv, qMod, qPow, qI2, qCmpI, qEq, qNe, qLt, qLe, qGt, qGe, qNeg, qIx, qDGet, qDIn, qDPut, qSl, qPart, qNoPart, qNext, qFor, qiRng1, qiRng2, qiZip, qiEnum, qLc, fz, newL, List.getElem?_cons_zero, List.getElem?_cons_succ, List.set_cons_zero, List.set_cons_succ, if_true, if_false, Bool.false_eq_true, ite_true, ite_false, up_same, reduceIte, decide_true, decide_false, true_and, and_true, eqv_int, eqv_bool, eqv_TI, eqv_LI, eqv_TT, eqv_LT, eqv_nilL, eqv_nilT, shaped_TI, shaped_LI, shaped_TT, shaped_LT, shaped_int, shaped_bool, shaped_nilL, shaped_nilT, dints_map2, dbools_map2, datas_map, mkT_map, mkT_0, mkT_1, mkT_2, mkT_3, List.length_map, List.length_cons, List.length_nil, List.length_append, List.map_cons, List.map_nil, wipeD, Bool.not_true, Bool.not_false, eq_self, not_true_eq_false, not_false_eq_true, kitB_tt, kitB_ll, kitB_dd, kitB_bb, kitB_ib, kitB_ii, kitB_ss, kitB_tl, kitB_lt, Function.comp, datas, Option.map_some, List.cons_append, List.nil_append, CPow, le_size4, Int.toNat_natCast, rngD0, I_eq, Bo_eq, BS.qSortB, in_IT, in_IL, in_TT, in_TL, qNotN, qIsN, qSortD, qListRg, qDispT, keyX_TI, qGet, qiItems, qLockE, qLockS, qPop, qMaxDf, qLc2, qMax1, qMin1, qAppend, qExtend, tints_TI, dv_TI, Option.bind_some, qRetN, atI_0, atI_1, atI_2, mk_appT, mk_snocI, idl, rep_I, Option.map_none, eqv_idl, shaped_idl, Bool.and_self, Bool.true_and, Bool.and_true]))
namespace UC
open PySem L2 DL RD
end UC
end
section
set_option linter.all false
set_option maxRecDepth 100000
set_option maxHeartbeats 1000000
open PySem L2 DL RD UC
local macro_rules | `(tactic| walk_at "E") => `(tactic| (try simp only [qAsg, qRet, qDrop, qIfS, qTest, qAndT, qOrT, qNotT, qAndV, qOrV, qNotV, qIf, qOp, qUn, qChain, onB, qv, qc, qgN, qgT, qgCons, qgNil, qCons, qNil, qTup, qLst, qPar, qPar3, qAug, qCB, qCall, qLen, qTupleC, qListC, qMax2, qMin2, qIntC, qSum, qAny, qAll, qIsi, tyName, qAdd, qSub, qMul, qFdiv, qMod, qPow, qI2, qCmpI, qEq, qNe, qLt, qLe, qGt, qGe, qNeg, qIx, qDGet, qDIn, qDPut, qSl, qPart, qNoPart, qNext, qFor, qiSeq, qiRng1, qiRng2, qiZip, qiEnum, qLc, seqSrc, lsrc, titems, litems, sitems, fz, newL, List.getElem?_cons_zero, List.getElem?_cons_succ, List.set_cons_zero, List.set_cons_succ, if_true, if_false, Bool.false_eq_true, ite_true, ite_false, up_same, reduceIte, decide_true, decide_false, true_and, and_true]))
local macro_rules | `(tactic| walk_at "D") => `(tactic| (try simp only [qAsg, qRet, qDrop, qIfS, qTest, qAndT, qOrT, qNotT, qAndV, qOrV, qNotV, qIf, qOp, qUn, qChain, onB, qv, qc, qgN, qgT, qgCons, qgNil, qCons, qNil, qTup, qLst, qPar, qPar3, qAug, qCB, qCall, qLen, qTupleC, qListC, qMax2, qMin2, qIntC, qSum, qAny, qAll, qIsi, tyName, qAdd, qSub, qMul, qFdiv, qMod, qPow, qI2, qCmpI, qEq, qNe, qLt, qLe, qGt, qGe, qNeg, qIx, qDGet, qDIn, qDPut, qSl, qPart, qNoPart, qNext, qFor, qiSeq, qiRng1, qiRng2, qiZip, qiEnum, qLc, seqSrc, lsrc, titems, litems, sitems, fz, newL, List.getElem?_cons_zero, List.getElem?_cons_succ, List.set_cons_zero, List.set_cons_succ, if_true, if_false, Bool.false_eq_true, ite_true, ite_false, up_same, reduceIte, decide_true, decide_false, true_and, and_true, eqv_int, eqv_bool, eqv_TI, eqv_LI, eqv_TT, eqv_LT, eqv_nilL, eqv_nilT, shaped_TI, shaped_LI, shaped_TT, shaped_LT, shaped_int, shaped_bool, shaped_nilL, shaped_nilT, dints_map2, dbools_map2, datas_map, mkT_map, mkT_0, mkT_1, mkT_2, mkT_3, List.length_map, List.length_cons, List.length_nil, List.length_append, List.map_cons, List.map_nil, wipeD, Bool.not_true, Bool.not_false, eq_self, not_true_eq_false, not_false_eq_true, kitB_tt, kitB_ll, kitB_dd, kitB_bb, kitB_ib, kitB_ii, kitB_ss, kitB_tl, kitB_lt, Function.comp, datas, Option.map_some, List.cons_append, List.nil_append, CPow, le_size4, Int.toNat_natCast, rngD0, I_eq, Bo_eq, BS.qSortB, in_IT, in_IL, in_TT, in_TL, qNotN, qIsN, qSortD, qListRg, qDispT, keyX_TI, qGet, qiItems, qLockE, qLockS, qPop, qMaxDf, qLc2, qMax1, qMin1, qAppend, qExtend, tints_TI, dv_TI, Option.bind_some, qRetN, atI_0, atI_1, atI_2, mk_appT, mk_snocI, idl, rep_I, Option.map_none, eqv_idl, shaped_idl, Bool.and_self, Bool.true_and, Bool.and_true]))
local macro_rules | `(tactic| walk_at "F") => `(tactic| (try simp only [qAsg, qRet, qDrop, qIfS, qTest, qAndT, qOrT, qNotT, qAndV, qOrV, qNotV, qIf, qOp, qUn, qChain, onB, qv, qc, qgN, qgT, qgCons, qgNil, qCons, qNil, qTup, qLst, qPar, qPar3, qAug, qCB, qCall, qLen, qTupleC, qListC, qMax2, qMin2, qIntC, qSum, qAny, qAll, qIsi, tyName, qAdd, qSub, qMul, qFdiv, qMod, qPow, qI2, qCmpI, qEq, qNe, qLt, qLe, qGt, qGe, qNeg, qIx, qDGet, qDIn, qDPut, qSl, qPart, qNoPart, qNext, qFor, qiRng1, qiRng2, qiZip, qiEnum, qLc, fz, newL, List.getElem?_cons_zero, List.getElem?_cons_succ, List.set_cons_zero, List.set_cons_succ, if_true, if_false, Bool.false_eq_true, ite_true, ite_false, up_same, reduceIte, decide_true, decide_false, true_and, and_true, eqv_int, eqv_bool, eqv_TI, eqv_LI, eqv_TT, eqv_LT, eqv_nilL, eqv_nilT, shaped_TI, shaped_LI, shaped_TT, shaped_LT, shaped_int, shaped_bool, shaped_nilL, shaped_nilT, dints_map2, dbools_map2, datas_map, mkT_map, mkT_0, mkT_1, mkT_2, mkT_3, List.length_map, List.length_cons, List.length_nil, List.length_append, List.map_cons, List.map_nil, wipeD, Bool.not_true, Bool.not_false, eq_self, not_true_eq_false, not_false_eq_true, kitB_tt, kitB_ll, kitB_dd, kitB_bb, kitB_ib, kitB_ii, kitB_ss, kitB_tl, kitB_lt, Function.comp, datas, Option.map_some, List.cons_append, List.nil_append, CPow, le_size4, Int.toNat_natCast, rngD0, I_eq, Bo_eq, BS.qSortB, in_IT, in_IL, in_TT, in_TL, qNotN, qIsN, qSortD, qListRg, qDispT, keyX_TI, qGet, qiItems, qLockE, qLockS, qPop, qMaxDf, qLc2, qMax1, qMin1, qAppend, qExtend, tints_TI, dv_TI, Option.bind_some, qRetN, atI_0, atI_1, atI_2, mk_appT, mk_snocI, idl, rep_I, Option.map_none, eqv_idl, shaped_idl, Bool.and_self, Bool.true_and, Bool.and_true]))
namespace UC
open PySem L2 DL RD
theorem enumD_of {α : Type} (f : α → PyData) : ∀ (a : List α), enumD ((a.map f).map DV.d) = a.zipIdx.map fun p => DV.d (.tuple [.int p.2, f p.1]) := by
  intro a
  unfold enumD
  rw [List.map_map, List.mapIdx_eq_zipIdx_map, List.zipIdx_map, List.map_map]
  rfl
end UC
end
section
set_option linter.all false
set_option maxRecDepth 100000
set_option maxHeartbeats 1000000
open PySem L2 DL RD UC
local macro_rules | `(tactic| walk_at "E") => `(tactic| (try simp only [qAsg, qRet, qDrop, qIfS, qTest, qAndT, qOrT, qNotT, qAndV, qOrV, qNotV, qIf, qOp, qUn, qChain, onB, qv, qc, qgN, qgT, qgCons, qgNil, qCons, qNil, qTup, qLst, qPar, qPar3, qAug, qCB, qCall, qLen, qTupleC, qListC, qMax2, qMin2, qIntC, qSum, qAny, qAll, qIsi, tyName, qAdd, qSub, qMul, qFdiv, qMod, qPow, qI2, qCmpI, qEq, qNe, qLt, qLe, qGt, qGe, qNeg, qIx, qDGet, qDIn, qDPut, qSl, qPart, qNoPart, qNext, qFor, qiSeq, qiRng1, qiRng2, qiZip, qiEnum, qLc, seqSrc, lsrc, titems, litems, sitems, fz, newL, List.getElem?_cons_zero, List.getElem?_cons_succ, List.set_cons_zero, List.set_cons_succ, if_true, if_false, Bool.false_eq_true, ite_true, ite_false, up_same, reduceIte, decide_true, decide_false, true_and, and_true]))
local macro_rules | `(tactic| walk_at "D") => `(tactic| (try simp only [qAsg, qRet, qDrop, qIfS, qTest, qAndT, qOrT, qNotT, qAndV, qOrV, qNotV, qIf, qOp, qUn, qChain, onB, qv, qc, qgN, qgT, qgCons, qgNil, qCons, qNil, qTup, qLst, qPar, qPar3, qAug, qCB, qCall, qLen, qTupleC, qListC, qMax2, qMin2, qIntC, qSum, qAny, qAll, qIsi, tyName, qAdd, qSub, qMul, qFdiv, qMod, qPow, qI2, qCmpI, qEq, qNe, qLt, qLe, qGt, qGe, qNeg, qIx, qDGet, qDIn, qDPut, qSl, qPart, qNoPart, qNext, qFor, qiSeq, qiRng1, qiRng2, qiZip, qiEnum, qLc, seqSrc, lsrc, titems, litems, sitems, fz, newL, List.getElem?_cons_zero, List.getElem?_cons_succ, List.set_cons_zero, List.set_cons_succ, if_true, if_false, Bool.false_eq_true, ite_true, ite_false, up_same, reduceIte, decide_true, decide_false, true_and, and_true, eqv_int, eqv_bool, eqv_TI, eqv_LI, eqv_TT, eqv_LT, eqv_nilL, eqv_nilT, shaped_TI, shaped_LI, shaped_TT, shaped_LT, shaped_int, shaped_bool, shaped_nilL, shaped_nilT, dints_map2, dbools_map2, datas_map, mkT_map, mkT_0, mkT_1, mkT_2, mkT_3, List.length_map, List.length_cons, List.length_nil, List.length_append, List.map_cons, List.map_nil, wipeD, Bool.not_true, Bool.not_false, eq_self, not_true_eq_false, not_false_eq_true, kitB_tt, kitB_ll, kitB_dd, kitB_bb, kitB_ib, kitB_ii, kitB_ss, kitB_tl, kitB_lt, Function.comp, datas, Option.map_some, List.cons_append, List.nil_append, CPow, le_size4, Int.toNat_natCast, rngD0, I_eq, Bo_eq, BS.qSortB, in_IT, in_IL, in_TT, in_TL, qNotN, qIsN, qSortD, qListRg, qDispT, keyX_TI, qGet, qiItems, qLockE, qLockS, qPop, qMaxDf, qLc2, qMax1, qMin1, qAppend, qExtend, tints_TI, dv_TI, Option.bind_some, qRetN, atI_0, atI_1, atI_2, mk_appT, mk_snocI, idl, rep_I, Option.map_none, eqv_idl, shaped_idl, Bool.and_self, Bool.true_and, Bool.and_true]))
local macro_rules | `(tactic| walk_at "F") => `(tactic| (try simp only [qAsg, qRet, qDrop, qIfS, qTest, qAndT, qOrT, qNotT, qAndV, qOrV, qNotV, qIf, qOp, qUn, qChain, onB, qv, qc, qgN, qgT, qgCons, qgNil, qCons, qNil, qTup, qLst, qPar, qPar3, qAug, qCB, qCall, qLen, qTupleC, qListC, qMax2, qMin2, qIntC, qSum, qAny, qAll, qIsi, tyName, qAdd, qSub, qMul, qFdiv, qMod, qPow, qI2, qCmpI, qEq, qNe, qLt, qLe, qGt, qGe, qNeg, qIx, qDGet, qDIn, qDPut, qSl, qPart, qNoPart, qNext, qFor, qiRng1, qiRng2, qiZip, qiEnum, qLc, fz, newL, List.getElem?_cons_zero, List.getElem?_cons_succ, List.set_cons_zero, List.set_cons_succ, if_true, if_false, Bool.false_eq_true, ite_true, ite_false, up_same, reduceIte, decide_true, decide_false, true_and, and_true, eqv_int, eqv_bool, eqv_TI, eqv_LI, eqv_TT, eqv_LT, eqv_nilL, eqv_nilT, shaped_TI, shaped_LI, shaped_TT, shaped_LT, shaped_int, shaped_bool, shaped_nilL, shaped_nilT, dints_map2, dbools_map2, datas_map, mkT_map, mkT_0, mkT_1, mkT_2, mkT_3, List.length_map, List.length_cons, List.length_nil, List.length_append, List.map_cons, List.map_nil, wipeD, Bool.not_true, Bool.not_false, eq_self, not_true_eq_false, not_false_eq_true, kitB_tt, kitB_ll, kitB_dd, kitB_bb, kitB_ib, kitB_ii, kitB_ss, kitB_tl, kitB_lt, Function.comp, datas, Option.map_some, List.cons_append, List.nil_append, CPow, le_size4, Int.toNat_natCast, rngD0, I_eq, Bo_eq, BS.qSortB, in_IT, in_IL, in_TT, in_TL, qNotN, qIsN, qSortD, qListRg, qDispT, keyX_TI, qGet, qiItems, qLockE, qLockS, qPop, qMaxDf, qLc2, qMax1, qMin1, qAppend, qExtend, tints_TI, dv_TI, Option.bind_some, qRetN, atI_0, atI_1, atI_2, mk_appT, mk_snocI, idl, rep_I, Option.map_none, eqv_idl, shaped_idl, Bool.and_self, Bool.true_and, Bool.and_true]))
namespace UC
open PySem L2 DL RD
abbrev sp_turned : SpD := spZ turnL
theorem len_turned : ∀ xs st Q, sp_turned xs st Q → xs.length = 2 := lenZ
theorem sem_turned : ∀ xs st Q, sp_turned xs st Q → rd_turned { nx := fun _ st' => Fg Q (.d .none) st', rt := Fg Q } (startD 4 xs) st :=
  semZ_of (fe := fun e t => if 0 < e then t + 1 - e else 0) rfl fun a b x y st Q h => by
    walk_at "D"
    by_cases h0 : 0 < x
    · simp only [h0, decide_true, if_true] at h ⊢
      exact h
    · simp only [h0, decide_false, if_false] at h ⊢
      walk_at "D"
      exact h
def sp_dual_of : SpD := fun xs st Q => ∃ (G : List (List Int)) (c : List Int) (n w : Nat), xs = [.d (idl n G), .d (TI c)] ∧ OkC n w G ∧ n ≤ 8 ∧ G.length ≤ 10 ∧ Mon n 60 c ∧ (∀ g ∈ G, Bel n c g) ∧ (compF n G).length ≤ 60 ∧ Q (.d (idl n (dualL n G c))) st
theorem len_dual_of : ∀ xs st Q, sp_dual_of xs st Q → xs.length = 2 := by rintro xs st Q ⟨G, c, n, w, rfl, _⟩; rfl
theorem sem_dual_of : ∀ xs st Q, sp_dual_of xs st Q → rd_dual_of sp_want_small sp_divides sp_components_of sp_turned sp_made { nx := fun _ st' => Fg Q (.d .none) st', rt := Fg Q } (startD 7 xs) st := by
  rintro xs st Q ⟨G, c, n, w, rfl, ok, h8, h10, hc, hG, h60, K⟩
  have e0 : startD 7 [.d (idl n G), .d (TI c)] = [some (.d (idl n G)), some (.d (TI c)), none, none, none, none, none] := rfl
  rw [e0]
  unfold rd_dual_of
  have nc := hc.nn
  refine seq fun N hN => ?_
  walk_at "D"
  refine ⟨G, n, rfl, h8, h10, hN _ _ ?_⟩; clear hN N
  refine seq fun N hN => ?_
  walk_at "D"
  refine hN _ _ ?_; clear hN N
  refine seq fun N hN => ?_
  walk_at "D"
  rw [enumD_of]
  refine for_byT _ (fun _ ε s => s = st ∧ ∃ y4 y5, ε = [some (.d (idl n G)), some (.d (TI c)), some (I n), some (.d (TT G)), y4, y5, none]) ⟨rfl, _, _, rfl⟩ (fun _ _ _ _ => trivial) ?_ ?_
  · rintro i z ε s hz ⟨rfl, y3, y4, rfl⟩ L hL
    have hzA : z.1 ∈ G := by
      have := List.mem_of_getElem? hz
      exact (List.mem_zipIdx' (x := z.1) (i := z.2) this).2 ▸ List.getElem_mem _
    walk_at "D"
    refine ⟨z.1, c, rfl, ?_⟩
    have : divB z.1 c = true := (divB_iff (hG _ hzA).1 hc.1).mpr fun j hj => ((hG _ hzA).2 j hj).2
    rw [this]
    walk_at "D"
    exact hL _ _ ⟨rfl, _, _, rfl⟩
  rintro ε s ⟨rfl, y3, y4, rfl⟩
  refine hN _ _ ?_; clear hN N
  have B := bel_compF nc hG
  walk_at "D"
  refine ⟨G, n, w, rfl, ok, ?_⟩
  walk_at "D"
  refine ⟨by rw [sizeL]; omega, ?_⟩
  rw [List.map_map]
  refine comp_mapT _ (fun p => .d (TI (turnL p c))) trivial _ _ ?_ ?_
  · intro p hp Q1 h
    walk_at "D"
    exact ⟨p, c, rfl, by rw [(B p hp).1]; have := ok.2.1; omega, h⟩
  · have e1 : [] ++ (compF n G).map (fun p => DV.d (TI (turnL p c))) = (((compF n G).map fun p => turnL p c).map TI).map .d := by
      rw [List.nil_append, List.map_map, List.map_map]
      rfl
    rw [e1]
    walk_at "D"
    refine ⟨_, (compF n G).map fun p => turnL p c, n, rfl, rfl, ⟨ok.1, ok.2.1, by rw [List.length_map]; omega, fun t ht => ?_⟩, by show (dualL n G c).length ≤ 60; rw [dual_len nc hG]; exact h60, fg_ret K⟩
    obtain ⟨p, hp, rfl⟩ := List.mem_map.mp ht
    have b := bel_turn (B p hp) nc
    refine ⟨b.1, fun x hx => ?_⟩
    obtain ⟨j, hj, rfl⟩ := List.mem_iff_getElem.mp hx
    rw [gd_eq hj]
    have := b.2 j (by rw [← b.1]; exact hj)
    have := hc.2 _ (gd_mem (j := j) (by rw [hc.1, ← b.1]; exact hj))
    omega
end UC
end
section
set_option linter.all false
set_option maxRecDepth 100000
set_option maxHeartbeats 1000000
open PySem L2 DL RD UC
local macro_rules | `(tactic| walk_at "E") => `(tactic| (try simp only [qAsg, qRet, qDrop, qIfS, qTest, qAndT, qOrT, qNotT, qAndV, qOrV, qNotV, qIf, qOp, qUn, qChain, onB, qv, qc, qgN, qgT, qgCons, qgNil, qCons, qNil, qTup, qLst, qPar, qPar3, qAug, qCB, qCall, qLen, qTupleC, qListC, qMax2, qMin2, qIntC, qSum, qAny, qAll, qIsi, tyName, qAdd, qSub, qMul, qFdiv, qMod, qPow, qI2, qCmpI, qEq, qNe, qLt, qLe, qGt, qGe, qNeg, qIx, qDGet, qDIn, qDPut, qSl, qPart, qNoPart, qNext, qFor, qiSeq, qiRng1, qiRng2, qiZip, qiEnum, qLc, seqSrc, lsrc, titems, litems, sitems, fz, newL, List.getElem?_cons_zero, List.getElem?_cons_succ, List.set_cons_zero, List.set_cons_succ, if_true, if_false, Bool.false_eq_true, ite_true, ite_false, up_same, reduceIte, decide_true, decide_false, true_and, and_true]))
local macro_rules | `(tactic| walk_at "D") => `(tactic| (try simp only [qAsg, qRet, qDrop, qIfS, qTest, qAndT, qOrT, qNotT, qAndV, qOrV, qNotV, qIf, qOp, qUn, qChain, onB, qv, qc, qgN, qgT, qgCons, qgNil, qCons, qNil, qTup, qLst, qPar, qPar3, qAug, qCB, qCall, qLen, qTupleC, qListC, qMax2, qMin2, qIntC, qSum, qAny, qAll, qIsi, tyName, qAdd, qSub, qMul, qFdiv, qMod, qPow, qI2, qCmpI, qEq, qNe, qLt, qLe, qGt, qGe, qNeg, qIx, qDGet, qDIn, qDPut, qSl, qPart, qNoPart, qNext, qFor, qiSeq, qiRng1, qiRng2, qiZip, qiEnum, qLc, seqSrc, lsrc, titems, litems, sitems, fz, newL, List.getElem?_cons_zero, List.getElem?_cons_succ, List.set_cons_zero, List.set_cons_succ, if_true, if_false, Bool.false_eq_true, ite_true, ite_false, up_same, reduceIte, decide_true, decide_false, true_and, and_true, eqv_int, eqv_bool, eqv_TI, eqv_LI, eqv_TT, eqv_LT, eqv_nilL, eqv_nilT, shaped_TI, shaped_LI, shaped_TT, shaped_LT, shaped_int, shaped_bool, shaped_nilL, shaped_nilT, dints_map2, dbools_map2, datas_map, mkT_map, mkT_0, mkT_1, mkT_2, mkT_3, List.length_map, List.length_cons, List.length_nil, List.length_append, List.map_cons, List.map_nil, wipeD, Bool.not_true, Bool.not_false, eq_self, not_true_eq_false, not_false_eq_true, kitB_tt, kitB_ll, kitB_dd, kitB_bb, kitB_ib, kitB_ii, kitB_ss, kitB_tl, kitB_lt, Function.comp, datas, Option.map_some, List.cons_append, List.nil_append, CPow, le_size4, Int.toNat_natCast, rngD0, I_eq, Bo_eq, BS.qSortB, in_IT, in_IL, in_TT, in_TL, qNotN, qIsN, qSortD, qListRg, qDispT, keyX_TI, qGet, qiItems, qLockE, qLockS, qPop, qMaxDf, qLc2, qMax1, qMin1, qAppend, qExtend, tints_TI, dv_TI, Option.bind_some, qRetN, atI_0, atI_1, atI_2, mk_appT, mk_snocI, idl, rep_I, Option.map_none, eqv_idl, shaped_idl, Bool.and_self, Bool.true_and, Bool.and_true]))
local macro_rules | `(tactic| walk_at "F") => `(tactic| (try simp only [qAsg, qRet, qDrop, qIfS, qTest, qAndT, qOrT, qNotT, qAndV, qOrV, qNotV, qIf, qOp, qUn, qChain, onB, qv, qc, qgN, qgT, qgCons, qgNil, qCons, qNil, qTup, qLst, qPar, qPar3, qAug, qCB, qCall, qLen, qTupleC, qListC, qMax2, qMin2, qIntC, qSum, qAny, qAll, qIsi, tyName, qAdd, qSub, qMul, qFdiv, qMod, qPow, qI2, qCmpI, qEq, qNe, qLt, qLe, qGt, qGe, qNeg, qIx, qDGet, qDIn, qDPut, qSl, qPart, qNoPart, qNext, qFor, qiRng1, qiRng2, qiZip, qiEnum, qLc, fz, newL, List.getElem?_cons_zero, List.getElem?_cons_succ, List.set_cons_zero, List.set_cons_succ, if_true, if_false, Bool.false_eq_true, ite_true, ite_false, up_same, reduceIte, decide_true, decide_false, true_and, and_true, eqv_int, eqv_bool, eqv_TI, eqv_LI, eqv_TT, eqv_LT, eqv_nilL, eqv_nilT, shaped_TI, shaped_LI, shaped_TT, shaped_LT, shaped_int, shaped_bool, shaped_nilL, shaped_nilT, dints_map2, dbools_map2, datas_map, mkT_map, mkT_0, mkT_1, mkT_2, mkT_3, List.length_map, List.length_cons, List.length_nil, List.length_append, List.map_cons, List.map_nil, wipeD, Bool.not_true, Bool.not_false, eq_self, not_true_eq_false, not_false_eq_true, kitB_tt, kitB_ll, kitB_dd, kitB_bb, kitB_ib, kitB_ii, kitB_ss, kitB_tl, kitB_lt, Function.comp, datas, Option.map_some, List.cons_append, List.nil_append, CPow, le_size4, Int.toNat_natCast, rngD0, I_eq, Bo_eq, BS.qSortB, in_IT, in_IL, in_TT, in_TL, qNotN, qIsN, qSortD, qListRg, qDispT, keyX_TI, qGet, qiItems, qLockE, qLockS, qPop, qMaxDf, qLc2, qMax1, qMin1, qAppend, qExtend, tints_TI, dv_TI, Option.bind_some, qRetN, atI_0, atI_1, atI_2, mk_appT, mk_snocI, idl, rep_I, Option.map_none, eqv_idl, shaped_idl, Bool.and_self, Bool.true_and, Bool.and_true]))
namespace UC
open PySem L2 DL RD
end UC
end
section
set_option linter.all false
set_option maxRecDepth 100000
set_option maxHeartbeats 1000000
open PySem L2 DL RD UC
local macro_rules | `(tactic| walk_at "E") => `(tactic| (try simp only [qAsg, qRet, qDrop, qIfS, qTest, qAndT, qOrT, qNotT, qAndV, qOrV, qNotV, qIf, qOp, qUn, qChain, onB, qv, qc, qgN, qgT, qgCons, qgNil, qCons, qNil, qTup, qLst, qPar, qPar3, qAug, qCB, qCall, qLen, qTupleC, qListC, qMax2, qMin2, qIntC, qSum, qAny, qAll, qIsi, tyName, qAdd, qSub, qMul, qFdiv, qMod, qPow, qI2, qCmpI, qEq, qNe, qLt, qLe, qGt, qGe, qNeg, qIx, qDGet, qDIn, qDPut, qSl, qPart, qNoPart, qNext, qFor, qiSeq, qiRng1, qiRng2, qiZip, qiEnum, qLc, seqSrc, lsrc, titems, litems, sitems, fz, newL, List.getElem?_cons_zero, List.getElem?_cons_succ, List.set_cons_zero, List.set_cons_succ, if_true, if_false, Bool.false_eq_true, ite_true, ite_false, up_same, reduceIte, decide_true, decide_false, true_and, and_true]))
local macro_rules | `(tactic| walk_at "D") => `(tactic| (try simp only [qAsg, qRet, qDrop, qIfS, qTest, qAndT, qOrT, qNotT, qAndV, qOrV, qNotV, qIf, qOp, qUn, qChain, onB, qv, qc, qgN, qgT, qgCons, qgNil, qCons, qNil, qTup, qLst, qPar, qPar3, qAug, qCB, qCall, qLen, qTupleC, qListC, qMax2, qMin2, qIntC, qSum, qAny, qAll, qIsi, tyName, qAdd, qSub, qMul, qFdiv, qMod, qPow, qI2, qCmpI, qEq, qNe, qLt, qLe, qGt, qGe, qNeg, qIx, qDGet, qDIn, qDPut, qSl, qPart, qNoPart, qNext, qFor, qiSeq, qiRng1, qiRng2, qiZip, qiEnum, qLc, seqSrc, lsrc, titems, litems, sitems, fz, newL, List.getElem?_cons_zero, List.getElem?_cons_succ, List.set_cons_zero, List.set_cons_succ, if_true, if_false, Bool.false_eq_true, ite_true, ite_false, up_same, reduceIte, decide_true, decide_false, true_and, and_true, eqv_int, eqv_bool, eqv_TI, eqv_LI, eqv_TT, eqv_LT, eqv_nilL, eqv_nilT, shaped_TI, shaped_LI, shaped_TT, shaped_LT, shaped_int, shaped_bool, shaped_nilL, shaped_nilT, dints_map2, dbools_map2, datas_map, mkT_map, mkT_0, mkT_1, mkT_2, mkT_3, List.length_map, List.length_cons, List.length_nil, List.length_append, List.map_cons, List.map_nil, wipeD, Bool.not_true, Bool.not_false, eq_self, not_true_eq_false, not_false_eq_true, kitB_tt, kitB_ll, kitB_dd, kitB_bb, kitB_ib, kitB_ii, kitB_ss, kitB_tl, kitB_lt, Function.comp, datas, Option.map_some, List.cons_append, List.nil_append, CPow, le_size4, Int.toNat_natCast, rngD0, I_eq, Bo_eq, BS.qSortB, in_IT, in_IL, in_TT, in_TL, qNotN, qIsN, qSortD, qListRg, qDispT, keyX_TI, qGet, qiItems, qLockE, qLockS, qPop, qMaxDf, qLc2, qMax1, qMin1, qAppend, qExtend, tints_TI, dv_TI, Option.bind_some, qRetN, atI_0, atI_1, atI_2, mk_appT, mk_snocI, idl, rep_I, Option.map_none, eqv_idl, shaped_idl, Bool.and_self, Bool.true_and, Bool.and_true]))
local macro_rules | `(tactic| walk_at "F") => `(tactic| (try simp only [qAsg, qRet, qDrop, qIfS, qTest, qAndT, qOrT, qNotT, qAndV, qOrV, qNotV, qIf, qOp, qUn, qChain, onB, qv, qc, qgN, qgT, qgCons, qgNil, qCons, qNil, qTup, qLst, qPar, qPar3, qAug, qCB, qCall, qLen, qTupleC, qListC, qMax2, qMin2, qIntC, qSum, qAny, qAll, qIsi, tyName, qAdd, qSub, qMul, qFdiv, qMod, qPow, qI2, qCmpI, qEq, qNe, qLt, qLe, qGt, qGe, qNeg, qIx, qDGet, qDIn, qDPut, qSl, qPart, qNoPart, qNext, qFor, qiRng1, qiRng2, qiZip, qiEnum, qLc, fz, newL, List.getElem?_cons_zero, List.getElem?_cons_succ, List.set_cons_zero, List.set_cons_succ, if_true, if_false, Bool.false_eq_true, ite_true, ite_false, up_same, reduceIte, decide_true, decide_false, true_and, and_true, eqv_int, eqv_bool, eqv_TI, eqv_LI, eqv_TT, eqv_LT, eqv_nilL, eqv_nilT, shaped_TI, shaped_LI, shaped_TT, shaped_LT, shaped_int, shaped_bool, shaped_nilL, shaped_nilT, dints_map2, dbools_map2, datas_map, mkT_map, mkT_0, mkT_1, mkT_2, mkT_3, List.length_map, List.length_cons, List.length_nil, List.length_append, List.map_cons, List.map_nil, wipeD, Bool.not_true, Bool.not_false, eq_self, not_true_eq_false, not_false_eq_true, kitB_tt, kitB_ll, kitB_dd, kitB_bb, kitB_ib, kitB_ii, kitB_ss, kitB_tl, kitB_lt, Function.comp, datas, Option.map_some, List.cons_append, List.nil_append, CPow, le_size4, Int.toNat_natCast, rngD0, I_eq, Bo_eq, BS.qSortB, in_IT, in_IL, in_TT, in_TL, qNotN, qIsN, qSortD, qListRg, qDispT, keyX_TI, qGet, qiItems, qLockE, qLockS, qPop, qMaxDf, qLc2, qMax1, qMin1, qAppend, qExtend, tints_TI, dv_TI, Option.bind_some, qRetN, atI_0, atI_1, atI_2, mk_appT, mk_snocI, idl, rep_I, Option.map_none, eqv_idl, shaped_idl, Bool.and_self, Bool.true_and, Bool.and_true]))
namespace UC
open PySem L2 DL RD
def primesL (n : Nat) (G : List (List Int)) : List (List Int) := sortU ((compF n G).map suppL)
def sp_primes : SpD := fun xs st Q => ∃ (G : List (List Int)) (n w : Nat), xs = [.d (idl n G)] ∧ OkC n w G ∧ n ≤ 8 ∧ G.length ≤ 10 ∧ Q (.d (TT (primesL n G))) st
theorem len_primes : ∀ xs st Q, sp_primes xs st Q → xs.length = 1 := by rintro xs st Q ⟨G, n, w, rfl, _⟩; rfl
theorem comp_len_ok {n w : Nat} {G : List (List Int)} (ok : OkC n w G) : (compF n G).length < 4000 :=
  Nat.lt_of_le_of_lt (len_compF ok.2.2.2) (Nat.lt_of_le_of_lt (Nat.le_mul_of_pos_right _ (by omega)) ok.2.2.1)
theorem sem_primes : ∀ xs st Q, sp_primes xs st Q → rd_primes sp_components sp_support_of { nx := fun _ st' => Fg Q (.d .none) st', rt := Fg Q } (startD 2 xs) st := by
  rintro xs st Q ⟨G, n, w, rfl, ok, h8, h10, K⟩
  have e0 : startD 2 [.d (idl n G)] = [some (.d (idl n G)), none] := rfl
  rw [e0]
  unfold rd_primes
  have cC := comp_len_ok ok
  have M := mon_compF ok.2.2.2
  walk_at "D"
  refine ⟨G, n, w, rfl, ok, h8, h10, ?_⟩
  walk_at "D"
  refine ⟨by rw [sizeL]; omega, ?_⟩
  rw [List.map_map]
  refine comp_mapT _ (fun p => .d (TI (suppL p))) trivial _ _ ?_ ?_
  · intro p hp Q1 h
    walk_at "D"
    exact ⟨p, rfl, by rw [(M p hp).1]; omega, h⟩
  · have e1 : [] ++ (compF n G).map (fun p => DV.d (TI (suppL p))) = (((compF n G).map suppL).map TI).map .d := by
      rw [List.nil_append, List.map_map, List.map_map]
      rfl
    rw [e1]
    walk_at "D"
    exact ⟨cC, fg_ret K⟩
theorem supp_len (p : List Int) : (suppL p).length = posL p := by
  unfold suppL posL
  rw [List.length_map]
  conv => rhs; rw [← List.zipIdx_map_fst 0 p, List.filter_map, List.length_map]
  rfl
theorem foldl_min_spec : ∀ (l : List Int) (a : Int), (l.foldl min a = a ∨ l.foldl min a ∈ l) ∧ l.foldl min a ≤ a ∧ ∀ x ∈ l, l.foldl min a ≤ x
  | [], a => ⟨.inl rfl, Int.le_refl _, fun x hx => nomatch hx⟩
  | y :: l, a => by
    obtain ⟨h1, h2, h3⟩ := foldl_min_spec l (min a y)
    rw [List.foldl_cons]
    refine ⟨?_, by omega, fun x hx => ?_⟩
    · rcases h1 with h1 | h1
      · by_cases z : a ≤ y
        · exact .inl (by rw [h1]; omega)
        · exact .inr (List.mem_cons.mpr (.inl (by rw [h1]; omega)))
      · exact .inr (List.mem_cons_of_mem _ h1)
    · rcases List.mem_cons.mp hx with rfl | hx
      · omega
      · exact h3 x hx
def sp_dimension : SpD := fun xs st Q => ∃ (G : List (List Int)) (n w : Nat), xs = [.d (idl n G)] ∧ OkC n w G ∧ n ≤ 8 ∧ G.length ≤ 10 ∧ (compF n G = [] → Q (I (-1)) st) ∧ (∀ m, compF n G ≠ [] → MinCov n G m → Q (I ((n : Int) - (m : Int))) st)
theorem len_dimension : ∀ xs st Q, sp_dimension xs st Q → xs.length = 1 := by rintro xs st Q ⟨G, n, w, rfl, _⟩; rfl
theorem sem_dimension : ∀ xs st Q, sp_dimension xs st Q → rd_dimension sp_primes { nx := fun _ st' => Fg Q (.d .none) st', rt := Fg Q } (startD 3 xs) st := by
  rintro xs st Q ⟨G, n, w, rfl, ok, h8, h10, K1, K2⟩
  have e0 : startD 3 [.d (idl n G)] = [some (.d (idl n G)), none, none] := rfl
  rw [e0]
  unfold rd_dimension
  have cC := comp_len_ok ok
  refine seq fun N hN => ?_
  walk_at "D"
  refine ⟨G, n, w, rfl, ok, h8, h10, hN _ _ ?_⟩; clear hN N
  refine seq fun N hN => ?_
  walk_at "D"
  have hPl : (primesL n G).length < 4000 := Nat.lt_of_le_of_lt (sortU_len _) (by rw [List.length_map]; exact cC)
  have hmem : ∀ s, s ∈ primesL n G ↔ ∃ p ∈ compF n G, suppL p = s := fun s => by
    unfold primesL
    rw [mem_sortU, List.mem_map]
  refine ⟨by decide, ?_⟩
  by_cases e : compF n G = []
  · have e2 : primesL n G = [] := by unfold primesL; rw [e]; rfl
    simp only [e2, decide_true, if_true]
    walk_at "D"
    exact fg_ret (K1 e)
  · have e2 : primesL n G ≠ [] := fun z => by
      obtain ⟨p, hp⟩ := List.exists_mem_of_ne_nil _ e
      have := (hmem (suppL p)).mpr ⟨p, hp, rfl⟩
      rw [z] at this
      cases this
    simp only [e2, decide_false]
    walk_at "D"
    refine hN _ _ ?_; clear hN N
    walk_at "D"
    refine ⟨by rw [sizeL]; omega, ?_⟩
    rw [List.map_map]
    refine comp_mapT _ (fun p => I (p.length : Int)) trivial _ _ ?_ ?_
    · intro p hp Q1 h
      walk_at "D"
      exact h
    rw [ints_dv0]
    walk_at "D"
    cases hpl : primesL n G with
    | nil => exact absurd hpl e2
    | cons s0 r =>
      walk_at "D"
      obtain ⟨h1, h2, h3⟩ := foldl_min_spec (r.map fun p => (p.length : Int)) (s0.length : Int)
      generalize (r.map fun p => (p.length : Int)).foldl min (s0.length : Int) = mm at h1 h2 h3
      have hall : ∀ s ∈ primesL n G, mm ≤ (s.length : Int) := fun s hs => by
        rw [hpl] at hs
        rcases List.mem_cons.mp hs with rfl | hs
        · exact h2
        · exact h3 _ (List.mem_map.mpr ⟨s, hs, rfl⟩)
      obtain ⟨s1, hs1, hm⟩ : ∃ s ∈ primesL n G, mm = (s.length : Int) := by
        rcases h1 with h1 | h1
        · exact ⟨s0, by rw [hpl]; exact List.mem_cons_self, h1⟩
        · obtain ⟨s, hs, h⟩ := List.mem_map.mp h1
          exact ⟨s, by rw [hpl]; exact List.mem_cons_of_mem _ hs, h.symm⟩
      obtain ⟨p1, hp1, rfl⟩ := (hmem s1).mp hs1
      refine fg_ret ?_
      rw [hm]
      refine K2 (suppL p1).length e (mincov_comp (fun g hg => (ok.2.2.2 g hg).nn) ⟨p1, hp1, (supp_len p1).symm⟩ fun p hp => ?_)
      have := hall _ ((hmem (suppL p)).mpr ⟨p, hp, rfl⟩)
      rw [hm] at this
      rw [← supp_len p]
      omega
end UC
end
section
set_option linter.all false
set_option maxRecDepth 100000
set_option maxHeartbeats 1000000
namespace UC
open PySem L2 DL RD
def xV (v : Nat) (b : List Int) : List Int := (List.range v).map fun (j : Nat) => if (j : Int) ∈ b then 1 else 0
theorem len_xV {v : Nat} {b : List Int} : (xV v b).length = v := by unfold xV; rw [List.length_map, List.length_range]
theorem gd_xV {v j : Nat} {b : List Int} (hj : j < v) : gd (xV v b) j = if (j : Int) ∈ b then 1 else 0 := by
  unfold xV gd
  rw [List.getD_eq_getElem?_getD, List.getElem?_map, List.getElem?_range hj]
  rfl
theorem unit_xV (v : Nat) (b : List Int) : Unit1 v (xV v b) := ⟨len_xV, fun j hj => by
  rw [gd_xV hj]
  split <;> simp⟩
theorem pos_xV {v j : Nat} {b : List Int} (hj : j < v) : 0 < gd (xV v b) j ↔ (j : Int) ∈ b := by
  rw [gd_xV hj]
  split <;> simp_all
theorem nn_xV (v : Nat) (b : List Int) : NN v (xV v b) := (unit_xV v b).nn
theorem mon_unit {v : Nat} {q : List Int} (h : Unit1 v q) : Mon v 1 q := ⟨h.1, fun x hx => by
  obtain ⟨j, hj, e⟩ := List.mem_iff_getElem.mp hx
  rw [gd_eq hj] at e
  have := h.2 j (by rw [← h.1]; exact hj)
  omega⟩
theorem mon_xV (v : Nat) (b : List Int) : Mon v 1 (xV v b) := mon_unit (unit_xV v b)
theorem asc_supp (p : List Int) : Asc (suppL p) := by
  rw [supp_filter rfl]
  show List.Pairwise (· < ·) (List.map _ _)
  rw [List.pairwise_map]
  refine List.Pairwise.sublist List.filter_sublist (List.Pairwise.imp (fun {a b : Nat} (h : a < b) => ?_) List.pairwise_lt_range)
  omega
theorem supp_xV {v : Nat} {b : List Int} (ha : Asc b) (hl : Low v b) : suppL (xV v b) = b := asc_ext (asc_supp _) ha fun x => by
  rw [mem_supp len_xV]
  constructor
  · rintro ⟨j, hj, h, rfl⟩
    exact (pos_xV hj).mp h
  · intro hx
    have := hl x hx
    refine ⟨x.toNat, by omega, (pos_xV (by omega)).mpr ?_, by omega⟩
    rw [show ((x.toNat : Nat) : Int) = x by omega]
    exact hx
theorem xV_supp {v : Nat} {q : List Int} (h : Unit1 v q) : xV v (suppL q) = q := (gd_ext len_xV h.1).mpr fun j hj => by
  rw [gd_xV hj]
  have := h.2 j hj
  split
  · rename_i z
    obtain ⟨i, hi, h1, h2⟩ := (mem_supp h.1).mp z
    rw [show j = i by omega] at this ⊢
    omega
  · rename_i z
    have : ¬ 0 < gd q j := fun k => z ((mem_supp h.1).mpr ⟨j, hj, k, rfl⟩)
    omega
theorem xV_inj {v : Nat} {a b : List Int} (ha : Asc a) (hl : Low v a) (hb : Asc b) (hk : Low v b) (e : xV v a = xV v b) : a = b := by
  rw [← supp_xV ha hl, e, supp_xV hb hk]
theorem div_xV {v : Nat} {a b : List Int} (hl : Low v a) : divB (xV v a) (xV v b) = true ↔ insB a b = true := by
  rw [divB_iff len_xV len_xV, insB_iff]
  constructor
  · intro h x hx
    have := hl x hx
    have h := h x.toNat (by omega)
    rw [gd_xV (by omega), gd_xV (by omega), show ((x.toNat : Nat) : Int) = x by omega, if_pos hx] at h
    refine Classical.byContradiction fun z => ?_
    rw [if_neg z] at h
    omega
  · intro h j hj
    rw [gd_xV hj, gd_xV hj]
    by_cases c : (j : Int) ∈ a
    · rw [if_pos c, if_pos (h _ c)]
      exact Int.le_refl _
    · rw [if_neg c]
      split <;> decide
theorem holds_xV {v : Nat} {a b : List Int} (hl : Low v a) : holdsB (xV v a) (xV v b) = true ↔ ∃ x ∈ a, x ∈ b := by
  rw [holds_iff len_xV len_xV]
  constructor
  · rintro ⟨j, hj, h1, h2⟩
    refine ⟨j, (pos_xV hj).mp h1, (pos_xV hj).mp ?_⟩
    omega
  · rintro ⟨x, h1, h2⟩
    have := hl x h1
    have e : ((x.toNat : Nat) : Int) = x := by omega
    refine ⟨x.toNat, by omega, (pos_xV (by omega)).mpr (by rw [e]; exact h1), ?_⟩
    rw [gd_xV (by omega), gd_xV (by omega), e, if_pos h1, if_pos h2]
    exact Int.le_refl _
theorem around_xV {v : Nat} {a b : List Int} (hl : Low v b) : aroundB (xV v a) (xV v b) = true ↔ insB b a = true := by
  rw [around_iff len_xV len_xV, insB_iff]
  constructor
  · intro h x hx
    have := hl x hx
    have e : ((x.toNat : Nat) : Int) = x := by omega
    have h := (h x.toNat (by omega) ((pos_xV (by omega)).mpr (by rw [e]; exact hx))).1
    rw [pos_xV (by omega), e] at h
    exact h
  · intro h j hj hp
    have hb := (pos_xV hj).mp hp
    refine ⟨(pos_xV hj).mpr (h _ hb), ?_⟩
    rw [gd_xV hj, gd_xV hj, if_pos hb, if_pos (h _ hb)]
    exact Int.le_refl _
theorem Comp.sort {n : Nat} {G L : List (List Int)} (hG : NNs n G) (h : Comp n G L) : compF n G = sortU L :=
  ris_eq (ris_compF n G) (ris_sortU L) fun x => (Comp.same (comp_compF hG) h x).trans mem_sortU.symm
theorem turn_xV {v : Nat} {a : List Int} : turnL (xV v a) (List.replicate v 1) = xV v a := (gd_ext (len_turn len_xV (List.length_replicate ..)) len_xV).mpr fun j hj => by
  rw [gd_turn len_xV (List.length_replicate ..) hj, gd_rep hj, gd_xV hj]
  split <;> simp_all
theorem bel_unit {v : Nat} {q : List Int} (h : Unit1 v q) : Bel v (List.replicate v 1) q := ⟨h.1, fun j hj => by
  rw [gd_rep hj]
  have := h.2 j hj
  omega⟩
theorem nn_ones (v : Nat) : NN v (List.replicate v 1) := ⟨List.length_replicate .., fun x hx => by rw [(List.mem_replicate.mp hx).2]; decide⟩
end UC
end
section
set_option linter.all false
set_option maxRecDepth 100000
set_option maxHeartbeats 1000000
open PySem L2 DL RD UC
local macro_rules | `(tactic| walk_at "E") => `(tactic| (try simp only [qAsg, qRet, qDrop, qIfS, qTest, qAndT, qOrT, qNotT, qAndV, qOrV, qNotV, qIf, qOp, qUn, qChain, onB, qv, qc, qgN, qgT, qgCons, qgNil, qCons, qNil, qTup, qLst, qPar, qPar3, qAug, qCB, qCall, qLen, qTupleC, qListC, qMax2, qMin2, qIntC, qSum, qAny, qAll, qIsi, tyName, qAdd, qSub, qMul, qFdiv, qMod, qPow, qI2, qCmpI, qEq, qNe, qLt, qLe, qGt, qGe, qNeg, qIx, qDGet, qDIn, qDPut, qSl, qPart, qNoPart, qNext, qFor, qiSeq, qiRng1, qiRng2, qiZip, qiEnum, qLc, seqSrc, lsrc, titems, litems, sitems, fz, newL, List.getElem?_cons_zero, List.getElem?_cons_succ, List.set_cons_zero, List.set_cons_succ, if_true, if_false, Bool.false_eq_true, ite_true, ite_false, up_same, reduceIte, decide_true, decide_false, true_and, and_true]))
local macro_rules | `(tactic| walk_at "D") => `(tactic| (try simp only [qAsg, qRet, qDrop, qIfS, qTest, qAndT, qOrT, qNotT, qAndV, qOrV, qNotV, qIf, qOp, qUn, qChain, onB, qv, qc, qgN, qgT, qgCons, qgNil, qCons, qNil, qTup, qLst, qPar, qPar3, qAug, qCB, qCall, qLen, qTupleC, qListC, qMax2, qMin2, qIntC, qSum, qAny, qAll, qIsi, tyName, qAdd, qSub, qMul, qFdiv, qMod, qPow, qI2, qCmpI, qEq, qNe, qLt, qLe, qGt, qGe, qNeg, qIx, qDGet, qDIn, qDPut, qSl, qPart, qNoPart, qNext, qFor, qiSeq, qiRng1, qiRng2, qiZip, qiEnum, qLc, seqSrc, lsrc, titems, litems, sitems, fz, newL, List.getElem?_cons_zero, List.getElem?_cons_succ, List.set_cons_zero, List.set_cons_succ, if_true, if_false, Bool.false_eq_true, ite_true, ite_false, up_same, reduceIte, decide_true, decide_false, true_and, and_true, eqv_int, eqv_bool, eqv_TI, eqv_LI, eqv_TT, eqv_LT, eqv_nilL, eqv_nilT, shaped_TI, shaped_LI, shaped_TT, shaped_LT, shaped_int, shaped_bool, shaped_nilL, shaped_nilT, dints_map2, dbools_map2, datas_map, mkT_map, mkT_0, mkT_1, mkT_2, mkT_3, List.length_map, List.length_cons, List.length_nil, List.length_append, List.map_cons, List.map_nil, wipeD, Bool.not_true, Bool.not_false, eq_self, not_true_eq_false, not_false_eq_true, kitB_tt, kitB_ll, kitB_dd, kitB_bb, kitB_ib, kitB_ii, kitB_ss, kitB_tl, kitB_lt, Function.comp, datas, Option.map_some, List.cons_append, List.nil_append, CPow, le_size4, Int.toNat_natCast, rngD0, I_eq, Bo_eq, BS.qSortB, in_IT, in_IL, in_TT, in_TL, qNotN, qIsN, qSortD, qListRg, qDispT, keyX_TI, qGet, qiItems, qLockE, qLockS, qPop, qMaxDf, qLc2, qMax1, qMin1, qAppend, qExtend, tints_TI, dv_TI, Option.bind_some, qRetN, atI_0, atI_1, atI_2, mk_appT, mk_snocI, idl, rep_I, Option.map_none, eqv_idl, shaped_idl, Bool.and_self, Bool.true_and, Bool.and_true]))
local macro_rules | `(tactic| walk_at "F") => `(tactic| (try simp only [qAsg, qRet, qDrop, qIfS, qTest, qAndT, qOrT, qNotT, qAndV, qOrV, qNotV, qIf, qOp, qUn, qChain, onB, qv, qc, qgN, qgT, qgCons, qgNil, qCons, qNil, qTup, qLst, qPar, qPar3, qAug, qCB, qCall, qLen, qTupleC, qListC, qMax2, qMin2, qIntC, qSum, qAny, qAll, qIsi, tyName, qAdd, qSub, qMul, qFdiv, qMod, qPow, qI2, qCmpI, qEq, qNe, qLt, qLe, qGt, qGe, qNeg, qIx, qDGet, qDIn, qDPut, qSl, qPart, qNoPart, qNext, qFor, qiRng1, qiRng2, qiZip, qiEnum, qLc, fz, newL, List.getElem?_cons_zero, List.getElem?_cons_succ, List.set_cons_zero, List.set_cons_succ, if_true, if_false, Bool.false_eq_true, ite_true, ite_false, up_same, reduceIte, decide_true, decide_false, true_and, and_true, eqv_int, eqv_bool, eqv_TI, eqv_LI, eqv_TT, eqv_LT, eqv_nilL, eqv_nilT, shaped_TI, shaped_LI, shaped_TT, shaped_LT, shaped_int, shaped_bool, shaped_nilL, shaped_nilT, dints_map2, dbools_map2, datas_map, mkT_map, mkT_0, mkT_1, mkT_2, mkT_3, List.length_map, List.length_cons, List.length_nil, List.length_append, List.map_cons, List.map_nil, wipeD, Bool.not_true, Bool.not_false, eq_self, not_true_eq_false, not_false_eq_true, kitB_tt, kitB_ll, kitB_dd, kitB_bb, kitB_ib, kitB_ii, kitB_ss, kitB_tl, kitB_lt, Function.comp, datas, Option.map_some, List.cons_append, List.nil_append, CPow, le_size4, Int.toNat_natCast, rngD0, I_eq, Bo_eq, BS.qSortB, in_IT, in_IL, in_TT, in_TL, qNotN, qIsN, qSortD, qListRg, qDispT, keyX_TI, qGet, qiItems, qLockE, qLockS, qPop, qMaxDf, qLc2, qMax1, qMin1, qAppend, qExtend, tints_TI, dv_TI, Option.bind_some, qRetN, atI_0, atI_1, atI_2, mk_appT, mk_snocI, idl, rep_I, Option.map_none, eqv_idl, shaped_idl, Bool.and_self, Bool.true_and, Bool.and_true]))
namespace UC
open PySem L2 DL RD
def sp_law_subsets : SpD := fun xs st Q => ∃ (x : DV) (vs : List Int), xs = [x] ∧ sitems st x = some ((vs.map .int).map .d) ∧ vs.length ≤ 14 ∧
  ∀ (y : DV) st', Le st st' → (∀ a, y = .r a → st a = none) → sitems st' y = some (((subsL vs).map TI).map .d) → litems st' y = some (((subsL vs).map TI).map .d) → Q y st'
theorem len_law_subsets : ∀ xs st Q, sp_law_subsets xs st Q → xs.length = 1 := by rintro xs st Q ⟨x, a, rfl, _⟩; rfl
theorem sem_law_subsets : ∀ xs st Q, sp_law_subsets xs st Q → rd_law_subsets { nx := fun _ st' => Fg Q (.d .none) st', rt := Fg Q } (startD 4 xs) st := by
  rintro xs st Q ⟨x, vs, rfl, hx, hl, K⟩
  have e0 : startD 4 [x] = [some x, none, none, none] := rfl
  rw [e0]
  unfold rd_law_subsets
  refine seq fun N hN => ?_
  walk_at "D"
  refine ⟨by decide, by decide, fun p hp => hN _ _ ?_⟩; clear hN N
  refine seq fun N hN => ?_
  have hx1 := sitems_le hx (le_up1 (m := .lst [.d (.tuple [])]) hp)
  obtain ⟨inv0, hsrc0, hinv0⟩ := src_of2 hx1
  walk_at "F"
  simp only [qiSeq, qv, List.getElem?_cons_zero, List.getElem?_cons_succ, hsrc0]
  rw [List.map_map]
  refine for_byT _ (fun i ε s => Le st s ∧ (∃ y2, ε = [some x, some (.r p), y2, none]) ∧ s p = some (.lst (((subsL (vs.take i)).map TI).map .d))) ⟨le_up1 hp, ⟨_, rfl⟩, up_same⟩ (fun _ _ s h => hinv0 s (sitems_le hx h.1)) ?_ ?_
  · rintro i v ε s hi ⟨le, ⟨y2, rfl⟩, hs⟩ L hL
    have hiv : i < vs.length := (List.getElem?_eq_some_iff.mp hi).1
    have hnx : subsL (vs.take (i + 1)) = subsL (vs.take i) ++ (subsL (vs.take i)).map fun a => a ++ [v] := by
      rw [List.take_succ, hi]
      exact subs_snoc _ _
    have hlen : (subsL (vs.take i)).length ≤ 16384 := by
      rw [len_subs, List.length_take]
      exact Nat.le_trans (Nat.pow_le_pow_right (by decide) (show min i vs.length ≤ 14 by omega)) (by decide)
    have hall : ∀ a ∈ subsL (vs.take i), a.length ≤ 14 := fun a ha => by
      have := (mem_subs.mp ha).length_le
      rw [List.length_take] at this
      omega
    generalize subsL (vs.take i) = F at hs hnx hlen hall
    walk_at "D"
    refine ⟨⟨_, hs⟩, ?_⟩
    simp only [hs]
    refine ⟨by simp only [List.length_map, sizeL]; omega, ?_⟩
    rw [List.map_map]
    refine comp_mapT _ (fun a => .d (TI (a ++ [v]))) (by rw [← List.map_map]; exact hs) _ _ ?_ ?_
    · intro a ha Q1 h
      have := hall a ha
      walk_at "D"
      exact ⟨by decide, by rw [sizeL]; omega, h⟩
    · have e2 : [] ++ F.map (fun a => DV.d (TI (a ++ [v]))) = ((F.map fun a => a ++ [v]).map TI).map .d := by
        rw [List.nil_append, List.map_map, List.map_map]
        rfl
      rw [e2]
      walk_at "D"
      refine ⟨_, _, hs, rfl, by simp only [List.length_map, sizeL]; omega, hL _ _ ⟨le.up hp, ⟨_, rfl⟩, ?_⟩⟩
      rw [up_same, hnx, List.map_append, List.map_append]
  · rintro ε s ⟨le, ⟨y2, rfl⟩, hs⟩
    refine hN _ _ ?_
    rw [List.take_length] at hs
    walk_at "D"
    exact fg_ret (K _ s le (fun a e => by cases e; exact hp) (by simp only [sitems, titems, litems, hs]) (by simp only [litems, hs]))
end UC
end
section
set_option Elab.async false
set_option linter.all false
set_option maxRecDepth 100000
set_option maxHeartbeats 4000000
namespace CpComb
open PySem PySem.Spec
open Sem (wp)
theorem mro_cmb : mroOf (.type "itertools.combinations") = pure [.type "itertools.combinations", .type "object"] := by rw [mroOf_type]; kernel_rfl
theorem lookup_cmb_new : typeLookup (.type "itertools.combinations") "__new__" = pure (some (.builtin "itertools.combinations.__new__")) := by rw [typeLookup_type, builtinLookup_eq_fast]; kernel_rfl
theorem slot_cmb_init : Slot "itertools.combinations" "__init__" "object.__init__" :=
  .of (owner := "object") (n := "__init__") (by rw [typeLookup_type, builtinLookup_eq_fast]; kernel_rfl) (by decide +kernel) (by decide +kernel) (by decide +kernel)
    (by first | exact .inl (by decide +kernel) | exact .inr (by decide +kernel)) (by rw [isSubtype_type]; kernel_rfl)
theorem sub_cmb : isSubtype (.type "itertools.combinations") (.type "itertools.combinations") = pure true := by rw [isSubtype_type]; kernel_rfl
theorem called_cmb : TypeCalled "itertools.combinations" "itertools.combinations.__new__" "object.__init__" :=
  ⟨by decide +kernel, by decide +kernel, ⟨_, _, mro_cmb⟩, madeBy_type mro_cmb lookup_cmb_new (by decide +kernel), by decide +kernel, sub_cmb, slot_cmb_init⟩
theorem typeCall_cmb_2 (a b : Value) : checkTypeCall "itertools.combinations" ⟨[a, b], []⟩ = pure () := by kernel_rfl
theorem newCall_cmb_2 (a b : Value) : checkBuiltinCall "itertools.combinations.__new__" ⟨[.type "itertools.combinations", a, b], []⟩ = pure () := by kernel_rfl
theorem entry_cmb_new : entryFor table "itertools.combinations.__new__" = some Builtin.«itertools.combinations.__new__» := entryFor_of_tree (by kernel_rfl)
theorem slot_cmb_iter : Slot "itertools.combinations" "__iter__" "itertools.combinations.__iter__" :=
  .of (owner := "itertools.combinations") (n := "__iter__") (by rw [typeLookup_type, builtinLookup_eq_fast]; kernel_rfl) (by decide +kernel) (by decide +kernel) (by decide +kernel)
    (by first | exact .inl (by decide +kernel) | exact .inr (by decide +kernel)) sub_cmb
theorem slot_cmb_next : Slot "itertools.combinations" "__next__" "itertools.combinations.__next__" :=
  .of (owner := "itertools.combinations") (n := "__next__") (by rw [typeLookup_type, builtinLookup_eq_fast]; kernel_rfl) (by decide +kernel) (by decide +kernel) (by decide +kernel)
    (by first | exact .inl (by decide +kernel) | exact .inr (by decide +kernel)) sub_cmb
theorem entry_cmb_iter : entryFor table "itertools.combinations.__iter__" = some Builtin.«dict_keyiterator.__iter__» :=
  entryFor_alias (id' := "dict_keyiterator.__iter__") (by kernel_rfl) (by first | rfl | decide +kernel | (unfold String.splitOn; simp +decide [String.splitOnAux])) (by decide +kernel) (by kernel_rfl)
theorem entry_cmb_next : entryFor table "itertools.combinations.__next__" = some Builtin.«itertools.combinations.__next__» := entryFor_of_tree (by kernel_rfl)
theorem owner_cmb : Manifest.owners.lookup (String.ofList ['s', 'n', 'o', 'i', 't', 'a', 'n', 'i', 'b', 'm', 'o', 'c', '.', 's', 'l', 'o', 'o', 't', 'r', 'e', 't', 'i'].reverse) = some Manifest.sig_itertools_combinations := by kernel_rfl
theorem args_cmb_iter (a : Value) : argsOk "itertools.combinations.__iter__" ⟨[a], []⟩ := by
  unfold argsOk; rw [signature?_of (id := "itertools.combinations.__iter__") (n := ['_', '_', 'r', 'e', 't', 'i', '_', '_']) (o := ['s', 'n', 'o', 'i', 't', 'a', 'n', 'i', 'b', 'm', 'o', 'c', '.', 's', 'l', 'o', 'o', 't', 'r', 'e', 't', 'i']) (by kernel_rfl) owner_cmb]; kernel_rfl
theorem args_cmb_next (a : Value) : argsOk "itertools.combinations.__next__" ⟨[a], []⟩ := by
  unfold argsOk; rw [signature?_of (id := "itertools.combinations.__next__") (n := ['_', '_', 't', 'x', 'e', 'n', '_', '_']) (o := ['s', 'n', 'o', 'i', 't', 'a', 'n', 'i', 'b', 'm', 'o', 'c', '.', 's', 'l', 'o', 'o', 't', 'r', 'e', 't', 'i']) (by kernel_rfl) owner_cmb]; kernel_rfl
theorem noDict_cmb : typeHasDict (.type "itertools.combinations") = false := by decide +kernel
/-- a combinations object: its pool, how far it is, what it gave last, its places -/
abbrev cmbObj (P : Value) (st : Int) (last : Value) (idx : List Nat) : Obj := { cls := .type "itertools.combinations", dict := none, data := .fields ([P, .int st 0, last] ++ idx.map fun (i : Nat) => Value.int (i : Int) 0).toArray, slots := #[] }
theorem meets_cmb_new (it : Value) (i : Int) (t : Tok) (h0 : 0 ≤ i) (hr : i ≤ 1000) :
    Meets (Builtin.«itertools.combinations.__new__» ⟨[.type "itertools.combinations", it, .int i t], []⟩)
      (fun A R s => ∀ (prog : Program) (w : World), wpAny (model prog w) A.in1 (collect it) (fun vs s1 => vs.length ≤ 1000 ∧ R (.ok (.ret (.ref (s1.heap.objs.size + 1)))) { s1 with heap := (s1.heap.push { cls := .type "tuple", data := .seq vs.toArray }).push (cmbObj (.ref s1.heap.objs.size) (if i.toNat > vs.length then 2 else 0) .none (List.range i.toNat)) })
        (fun e s' => R (.error e) s') s) :=
  fun prog w A R s h => by
    have hw := h prog w
    obtain ⟨hp, g, dd, tk, os⟩ := s
    have hsub := sub_cmb
    have hd := noDict_cmb
    have es : ("itertools." ++ "combinations" : String) = "itertools.combinations" := by decide +kernel
    have hn : ¬ ((!(decide (-(2 ^ 63 : Int) ≤ i) && decide (i < (2 ^ 63 : Int)))) = true) := by
      have a : decide (-(2 ^ 63 : Int) ≤ i) = true := decide_eq_true (by omega)
      have b : decide (i < (2 ^ 63 : Int)) = true := decide_eq_true (by omega)
      rw [a, b]
      decide
    iterate 84 (first
      | (fail_if_success (with_reducible refine wpAny_mono hw (fun _ _ _ => ?_) (fun _ _ he => he))
         first
         | simp only [es]
         | wp_step
         | simp only [List.head?_cons, Option.some_or, List.getElem?_cons_succ, List.getElem?_cons_zero, List.length_cons, List.length_nil, List.forIn_nil]
         | (refine wpAny_ite_false (decide_eq_false hn) ?_))
      | skip)
    have hn2 : ¬ ((decide (i < -2 ^ 63) || decide (i ≥ 2 ^ 63)) = true) := by
      have a : decide (i < -2 ^ 63) = false := decide_eq_false (by omega)
      have b : decide (i ≥ 2 ^ 63) = false := decide_eq_false (by omega)
      rw [a, b]
      decide
    rw [if_neg hn2]
    refine wpAny_pure ?_
    refine wpAny_bind (wpAny_mono hw (fun vs s1 hv => ?_) fun e s' he => he)
    obtain ⟨hl, hv⟩ := hv
    rw [if_neg (show ¬ i < 0 by omega), if_neg (by unfold Builtin.Itertools.itTooMany; simp; omega)]
    refine wpAny_bind ?_
    simp only [newTuple]
    refine wpAny_newObj_type ?_ (by show vs.toArray.size ≤ sizeLine; rw [List.size_toArray, sizeLine_eq]; omega)
    refine wpAny_pure ?_
    show wpAny _ _ (Builtin.Itertools.itNewRecord (.type "itertools.combinations") _ >>= _) _ _ _
    refine wpAny_bind ?_
    unfold Builtin.Itertools.itNewRecord
    rw [hd, if_pos (by rfl)]
    have hf : (([Value.ref s1.heap.objs.size, rawInt (if i.toNat > vs.length then 2 else 0), Value.none] ++ (List.range i.toNat).map fun (i : Nat) => rawInt (i : Int))).length ≤ 1003 := by
      simp only [List.length_append, List.length_map, List.length_range, List.length_cons, List.length_nil]
      omega
    refine wpAny_newObj_type ?_ (by show (List.toArray _).size ≤ sizeLine + 2; rw [List.size_toArray, sizeLine_eq]; exact Nat.le_trans hf (by decide))
    refine wpAny_pure ?_
    have e1 : (s1.heap.push { cls := .type "tuple", data := .seq vs.toArray }).objs.size = s1.heap.objs.size + 1 := by first | exact PyProof.Rows.size_push' .. | simp [Heap.push]

    show R (.ok (.ret (.ref (s1.heap.push { cls := .type "tuple", data := .seq vs.toArray }).objs.size))) _
    rw [e1]
    exact hv
end CpComb
end
section
set_option Elab.async false
set_option linter.all false
set_option maxRecDepth 100000
set_option maxHeartbeats 4000000
namespace CpComb
open PySem PySem.Spec CpRep
open Sem (wp)
/-- the next places -/
def nextC (n : Nat) (idx : List Nat) : Option (List Nat) :=
  match (List.range idx.length).reverse.find? fun i => idx.getD i 0 != i + n - idx.length with
  | none => none
  | some i => some (idx.take i ++ (List.range (idx.length - i)).map (idx.getD i 0 + 1 + ·))
abbrev IsCmb (h : Heap) (it : Addr) (P : Addr) (st : Int) (last : Value) (idx : List Nat) : Prop := h.get? it = some (cmbObj (.ref P) st last idx)
section
variable {prog : Program} {w : World} {A : Around} {E : Value → Shared → Prop} {s : Shared}
theorem iter_cmb {it P : Addr} {st : Int} {last : Value} {idx : List Nat} {Q : Value → Shared → Prop} (hit : IsCmb s.heap it P st last idx) (h : Q (.ref it) s) : wpAny (model prog w) A (pyIter (.ref it)) Q E s := by
  have hT : s.TypeIs (.ref it) "itertools.combinations" := ⟨_, hit, rfl⟩
  refine wpAny_pyIter_slot hT slot_cmb_iter (wpAny_call_entry slot_cmb_iter hT entry_cmb_iter ?_ (args_cmb_iter _))
  show wpAny _ _ (ret (.ref it)) _ _ s
  exact wpAny_pure ⟨_, rfl, "itertools.combinations", _, hT, slot_cmb_next.lookup, h⟩
abbrev cmbF (P : Value) (st : Int) (last : Value) (idx : List Nat) : Array Value := ([P, .int st 0, last] ++ idx.map fun (i : Nat) => Value.int (i : Int) 0).toArray
theorem set1 (P : Value) (st st' : Int) (last : Value) (idx : List Nat) : (cmbF P st last idx).setIfInBounds 1 (rawInt st') = cmbF P st' last idx := by
  simp [cmbF, rawInt]
theorem set2 (P : Value) (st : Int) (last last' : Value) (idx : List Nat) : (cmbF P st last idx).setIfInBounds 2 last' = cmbF P st last' idx := by
  simp [cmbF]
theorem size_cmbF (P : Value) (st : Int) (last : Value) (idx : List Nat) : (cmbF P st last idx).size = idx.length + 3 := by
  simp [cmbF]
theorem numbers {it P : Addr} {st : Int} {last : Value} {idx : List Nat} {Q : List Nat → Shared → Prop} (hit : IsCmb s.heap it P st last idx) (h : Q idx s) : wpAny (model prog w) A (Builtin.Itertools.itNumbersFrom (.ref it) 3) Q E s := by
  unfold Builtin.Itertools.itNumbersFrom
  show wpAny _ _ (load it >>= _) _ _ _
  refine wpAny_bind (wpAny_load hit ?_)
  refine wpAny_pure ?_
  have e : ((cmbF (.ref P) st last idx).toList.drop 3).map (fun | .int n _ => n.toNat | _ => 0) = idx := by
    simp only [cmbF, List.drop_succ_cons, List.cons_append, List.nil_append, List.drop_zero, List.map_map]
    conv => rhs; rw [← List.map_id idx]
    exact List.map_congr_left fun x _ => by simp
  show Q (((cmbF (.ref P) st last idx).toList.drop 3).map (fun | .int n _ => n.toNat | _ => 0)) s
  rw [e]
  exact h
theorem stField {it P : Addr} {st : Int} {last : Value} {idx : List Nat} {Q : Int → Shared → Prop} (hit : IsCmb s.heap it P st last idx) (h : Q st s) : wpAny (model prog w) A (Builtin.Itertools.itIntField (.ref it) 1) Q E s := by
  unfold Builtin.Itertools.itIntField
  refine wpAny_bind (wpAny_field hit rfl (x := .int st 0) rfl ?_)
  exact wpAny_pure h
theorem poolItems {P : Addr} {oP : Obj} {items : Array Value} {n : Nat} {Q : Array Value → Shared → Prop} (hP : s.heap.get? P = some oP) (hd : oP.data = .seq items n) (h : Q items s) : wpAny (model prog w) A (Builtin.Itertools.itPoolItems (.ref P)) Q E s := by
  unfold Builtin.Itertools.itPoolItems
  refine wpAny_bind (wpAny_seqItems hP hd ?_)
  exact wpAny_pure h
/-- what is picked -/
def pickT (items : Array Value) (idx : List Nat) : List Value := idx.map fun i => items.getD i .none
/-- hand it out -/
theorem handOut {it P : Addr} {st : Int} {last : Value} {idx : List Nat} {ns : List Nat} {oP : Obj} {items : Array Value} {n : Nat} {Q : Fin → Shared → Prop} (hit : IsCmb s.heap it P st last ns) (hP : s.heap.get? P = some oP) (hd : oP.data = .seq items n) (hl : idx.length ≤ 1000)
    (hQ : ∀ h', IsCmb h' it P st (.ref s.heap.objs.size) ns → h'.get? s.heap.objs.size = some { cls := .type "tuple", data := .seq (pickT items idx).toArray } →
      (∀ b o, b ≠ it → s.heap.get? b = some o → h'.get? b = some o) → Q (.done (.ret (.ref s.heap.objs.size))) { s with heap := h' }) :
    wpAny (model prog w) A (do
      let result ← (do
        let items ← Builtin.Itertools.itPoolItems (.ref P)
        newTuple (idx.map fun i => items.getD i .none))
      let before ← field (.ref it) 2
      setField (.ref it) 2 result
      letGo [before] [result]
      ret result) Q E s := by
  have hlt : it < s.heap.objs.size := Heap.lt_size hit
  refine wpAny_bind (wpAny_bind (poolItems hP hd (wpAny_newTuple ?_ (by rw [List.length_map, sizeLine_eq]; omega))))
  have hit1 : IsCmb (s.heap.push { cls := .type "tuple", data := .seq (pickT items idx).toArray }) it P st last ns := Heap.get?_push_of_some _ hit
  refine wpAny_bind (wpAny_field hit1 rfl (x := last) rfl ?_)
  refine wpAny_bind (wpAny_setField_rec (vs := cmbF (.ref P) st last ns) hit1 (by rw [size_cmbF]; omega) fun h2 e2 sb => ?_)
  rw [set2] at e2
  refine wpAny_bind (wpAny_letGo (wpAny_pure ?_))
  refine hQ h2 e2 ?_ fun b o hb e => (sb.2 b hb).trans (Heap.get?_push_of_some _ e)
  exact (sb.2 _ (Nat.ne_of_gt hlt)).trans (Heap.get?_push_size _ rfl)
/-- out is handed the next one: a new tuple of these places -/
abbrev GaveC (it P : Addr) (items : Array Value) (idx : List Nat) (s : Shared) (h' : Heap) : Prop :=
  IsCmb h' it P 1 (.ref s.heap.objs.size) idx ∧ h'.get? s.heap.objs.size = some { cls := .type "tuple", data := .seq (pickT items idx).toArray } ∧ ∀ b o, b ≠ it → s.heap.get? b = some o → h'.get? b = some o
theorem next_first {it P : Addr} {last : Value} {idx : List Nat} {items : Array Value} {n : Nat} {oP : Obj} {Q : Option Value → Shared → Prop} (hit : IsCmb s.heap it P 0 last idx) (hP : s.heap.get? P = some oP) (hd : oP.data = .seq items n) (hne : P ≠ it) (hl : idx.length ≤ 1000)
    (hQ : ∀ h', GaveC it P items idx s h' → Q (some (.ref s.heap.objs.size)) { s with heap := h' }) :
    wpAny (model prog w) A (pyNext (.ref it)) Q E s := by
  have hT : s.TypeIs (.ref it) "itertools.combinations" := ⟨_, hit, rfl⟩
  unfold pyNext
  refine wpAny_bind (wpAny_attempt (wpAny_callSpecial?_slot (name := Str.ofString "__next__") hT slot_cmb_next (wpAny_call_entry slot_cmb_next hT entry_cmb_next ?_ (args_cmb_next _))))
  show wpAny _ _ (field (.ref it) 0 >>= _) _ _ s
  refine wpAny_bind (wpAny_field hit rfl (x := .ref P) rfl ?_)
  refine wpAny_bind (numbers hit ?_)
  refine wpAny_bind (stField hit ?_)
  refine wpAny_bind (wpAny_setField_rec (vs := cmbF (.ref P) 0 last idx) hit (by rw [size_cmbF]; omega) fun h1 e1 sb => ?_)
  rw [set1] at e1
  have hsz : h1.objs.size = s.heap.objs.size := sb.1
  refine handOut (s := { s with heap := h1 }) e1 ((sb.2 P hne).trans hP) hd hl fun h2 e2 t2 k2 => ⟨_, rfl, ?_⟩
  refine wpAny_pure ?_
  show Q (some (.ref h1.objs.size)) { s with heap := h2 }
  have e2 : IsCmb h2 it P 1 (.ref h1.objs.size) idx := e2
  have t2 : h2.get? h1.objs.size = some { cls := .type "tuple", data := .seq (pickT items idx).toArray } := t2
  rw [hsz] at e2 t2 ⊢
  exact hQ h2 ⟨e2, t2, fun b o hb e => k2 b o hb ((sb.2 b hb).trans e)⟩
theorem next_step {it P : Addr} {last : Value} {idx nx : List Nat} {items : Array Value} {n : Nat} {oP : Obj} {Q : Option Value → Shared → Prop} (hit : IsCmb s.heap it P 1 last idx) (hP : s.heap.get? P = some oP) (hd : oP.data = .seq items n) (hne : P ≠ it) (hnx : nextC items.size idx = some nx) (hl : nx.length ≤ 1000)
    (hQ : ∀ h', GaveC it P items nx s h' → Q (some (.ref s.heap.objs.size)) { s with heap := h' }) :
    wpAny (model prog w) A (pyNext (.ref it)) Q E s := by
  have hT : s.TypeIs (.ref it) "itertools.combinations" := ⟨_, hit, rfl⟩
  unfold pyNext
  refine wpAny_bind (wpAny_attempt (wpAny_callSpecial?_slot (name := Str.ofString "__next__") hT slot_cmb_next (wpAny_call_entry slot_cmb_next hT entry_cmb_next ?_ (args_cmb_next _))))
  show wpAny _ _ (field (.ref it) 0 >>= _) _ _ s
  refine wpAny_bind (wpAny_field hit rfl (x := .ref P) rfl ?_)
  refine wpAny_bind (numbers hit ?_)
  refine wpAny_bind (stField hit ?_)
  refine wpAny_bind (poolItems hP hd ?_)
  split
  rotate_left
  · rename_i hx
    have : nextC items.size idx = none := hx
    rw [hnx] at this
    cases this
  rename_i nx' hx
  have hx : nextC items.size idx = some nx' := hx
  rw [hnx] at hx
  cases hx
  refine wpAny_bind ?_
  unfold Builtin.Itertools.itSetNumbersFrom
  refine wpAny_updateFields hit rfl ?_ (by rw [Array.size_append, Array.size_extract]; simp only [List.size_toArray]; rw [List.length_map (as := nx), sizeLine_eq]; omega)
  have e1 : IsCmb (s.heap.update it (Obj.mapFields fun fs => fs.extract 0 3 ++ (nx.map fun (n : Nat) => rawInt n).toArray)) it P 1 last nx := by
    have q := Heap.get?_update_self (Obj.mapFields fun fs => fs.extract 0 3 ++ (nx.map fun (n : Nat) => rawInt (n : Int)).toArray) hit rfl
    refine q.trans ?_
    simp [Obj.mapFields, cmbObj, rawInt]
  have sb : Heap.SameBut it s.heap (s.heap.update it (Obj.mapFields fun fs => fs.extract 0 3 ++ (nx.map fun (n : Nat) => rawInt (n : Int)).toArray)) := Heap.SameBut.update ..
  generalize s.heap.update it (Obj.mapFields fun fs => fs.extract 0 3 ++ (nx.map fun (n : Nat) => rawInt (n : Int)).toArray) = h1 at e1 sb
  have hsz : h1.objs.size = s.heap.objs.size := sb.1
  refine handOut (s := { s with heap := h1 }) e1 ((sb.2 P hne).trans hP) hd hl fun h2 e2 t2 k2 => ⟨_, rfl, ?_⟩
  refine wpAny_pure ?_
  show Q (some (.ref h1.objs.size)) { s with heap := h2 }
  have e2 : IsCmb h2 it P 1 (.ref h1.objs.size) nx := e2
  have t2 : h2.get? h1.objs.size = some { cls := .type "tuple", data := .seq (pickT items nx).toArray } := t2
  rw [hsz] at e2 t2 ⊢
  exact hQ h2 ⟨e2, t2, fun b o hb e => k2 b o hb ((sb.2 b hb).trans e)⟩
theorem stopIt {α : Type} {Q : α → Shared → Prop} (hh : A.handled = none) (h : ∀ (a : Addr) (o : Obj) (h' : Heap), h'.get? a = some o → o.cls = .type "StopIteration" → (∀ b o, s.heap.get? b = some o → h'.get? b = some o) → E (.ref a) { s with heap := h' }) :
    wpAny (model prog w) A (Builtin.Itertools.itStop : Sem α) Q E s := by
  unfold Builtin.Itertools.itStop
  show wpAny _ _ (newExc (.type "StopIteration") [] >>= _) _ _ _
  refine wpAny_bind ?_
  simp only [newExc, newTuple]
  refine wpAny_bind (wpAny_newObj_type ?_ (by size_fits))
  refine wpAny_bind (m := firstArgMember _ _) (wpAny_of_eq (a := Value.none) (by first | rfl | (simp only [firstArgMember]; rfl)) ?_)
  refine wpAny_newObj_type ?_ (by size_fits)
  simp only [raiseNew]
  refine wpAny_bind (wpAny_handled ?_)
  rw [hh]
  refine wpAny_bind (wpAny_pure (wpAny_throw ?_))
  exact h _ _ _ (Heap.get?_push_size _ rfl) rfl fun b o e => Heap.get?_push_of_some _ (Heap.get?_push_of_some _ e)
theorem next_over {it P : Addr} {last : Value} {idx : List Nat} {Q : Option Value → Shared → Prop} (hh : A.handled = none) (hit : IsCmb s.heap it P 2 last idx)
    (hQ : ∀ h', Heap.ExtBut it s.heap h' → Q none { s with heap := h' }) : wpAny (model prog w) A (pyNext (.ref it)) Q E s := by
  have hT : s.TypeIs (.ref it) "itertools.combinations" := ⟨_, hit, rfl⟩
  unfold pyNext
  refine wpAny_bind (wpAny_attempt (wpAny_callSpecial?_slot (name := Str.ofString "__next__") hT slot_cmb_next (wpAny_call_entry slot_cmb_next hT entry_cmb_next ?_ (args_cmb_next _))))
  show wpAny _ _ (field (.ref it) 0 >>= _) _ _ s
  refine wpAny_bind (wpAny_field hit rfl (x := .ref P) rfl ?_)
  refine wpAny_bind (numbers hit ?_)
  refine wpAny_bind (stField hit ?_)
  refine wpAny_bind (wpAny_rule ?_)
  refine stopIt (A := A.in1) hh fun a o h' e1 e2 k => ?_
  refine wpAny_bind (wpAny_isInstance (T := "StopIteration") (b := true) ⟨_, e1, e2⟩ isSubtype_stop ?_)
  exact wpAny_pure (hQ _ fun b o _ e => k b o e)
theorem next_end {it P : Addr} {last : Value} {idx : List Nat} {items : Array Value} {n : Nat} {oP : Obj} {Q : Option Value → Shared → Prop} (hh : A.handled = none) (hit : IsCmb s.heap it P 1 last idx) (hP : s.heap.get? P = some oP) (hd : oP.data = .seq items n) (hnx : nextC items.size idx = none)
    (hQ : ∀ h', Heap.ExtBut it s.heap h' → Q none { s with heap := h' }) : wpAny (model prog w) A (pyNext (.ref it)) Q E s := by
  have hT : s.TypeIs (.ref it) "itertools.combinations" := ⟨_, hit, rfl⟩
  unfold pyNext
  refine wpAny_bind (wpAny_attempt (wpAny_callSpecial?_slot (name := Str.ofString "__next__") hT slot_cmb_next (wpAny_call_entry slot_cmb_next hT entry_cmb_next ?_ (args_cmb_next _))))
  show wpAny _ _ (field (.ref it) 0 >>= _) _ _ s
  refine wpAny_bind (wpAny_field hit rfl (x := .ref P) rfl ?_)
  refine wpAny_bind (numbers hit ?_)
  refine wpAny_bind (stField hit ?_)
  refine wpAny_bind (poolItems hP hd ?_)
  split
  · rename_i nx' hx
    have hx : nextC items.size idx = some nx' := hx
    rw [hnx] at hx
    cases hx
  refine wpAny_bind (wpAny_setField_rec (vs := cmbF (.ref P) 1 last idx) hit (by rw [size_cmbF]; omega) fun h1 e1 sb => ?_)
  refine stopIt (A := A.in1) hh fun a o h' e1 e2 k => ?_
  refine wpAny_bind (wpAny_isInstance (T := "StopIteration") (b := true) ⟨_, e1, e2⟩ isSubtype_stop ?_)
  exact wpAny_pure (hQ _ fun b o hb e => k b o ((sb.2 b hb).trans e))
/-- combinations(x, r): the object is new, its pool is new -/
theorem call_cmb {x : Value} {i : Int} {t : Tok} {Q : Value → Shared → Prop} (h0 : 0 ≤ i) (h1 : i ≤ 1000)
    (h : ∀ (prog' : Program) (w' : World), wpAny (model prog' w') A.in1.in1 (collect x) (fun vs s1 => vs.length ≤ 1000 ∧ ∀ h', IsCmb h' (s1.heap.objs.size + 1) s1.heap.objs.size (if i.toNat > vs.length then 2 else 0) .none (List.range i.toNat) →
      h'.get? s1.heap.objs.size = some { cls := .type "tuple", data := .seq vs.toArray } → (∀ b o, s1.heap.get? b = some o → h'.get? b = some o) → Q (.ref (s1.heap.objs.size + 1)) { s1 with heap := h' }) E s) :
    wpAny (model prog w) A (call (.type "itertools.combinations") [x, .int i t]) Q E s := by
  refine callType_new called_cmb (by decide +kernel) (typeCall_cmb_2 _ _) (newCall_cmb_2 _ _) (fun obj => F.args_object_init_3 obj _ _) entry_cmb_new (meets_cmb_new x i t h0 h1) fun prog' w' => ?_
  refine wpAny_mono (h prog' w') (fun vs s1 ⟨hl, q⟩ => ⟨hl, ?_⟩) fun e s' z => z
  have hs : (s1.heap.push { cls := .type "tuple", data := .seq vs.toArray }).objs.size = s1.heap.objs.size + 1 := PyProof.Rows.size_push' ..
  have e1 : ((s1.heap.push { cls := .type "tuple", data := .seq vs.toArray }).push (cmbObj (.ref s1.heap.objs.size) (if i.toNat > vs.length then 2 else 0) .none (List.range i.toNat))).get? (s1.heap.objs.size + 1) = some (cmbObj (.ref s1.heap.objs.size) (if i.toNat > vs.length then 2 else 0) .none (List.range i.toNat)) := by
    rw [← hs]
    exact Heap.get?_push_size _ rfl
  show _ ∧ _
  exact ⟨⟨_, e1, rfl⟩, q _ e1 (Heap.get?_push_of_some _ (Heap.get?_push_size _ rfl)) fun b o e => Heap.get?_push_of_some _ (Heap.get?_push_of_some _ e)⟩
end
end CpComb
end
section
set_option Elab.async false
set_option linter.all false
set_option maxRecDepth 100000
set_option maxHeartbeats 4000000
namespace CpComb
open PySem
/-- r of lo, .., lo + m - 1, in their order -/
def combR : Nat → Nat → Nat → List (List Nat)
  | _, _, 0 => [[]]
  | 0, _, _ + 1 => []
  | m + 1, lo, r + 1 => (combR m (lo + 1) r).map (lo :: ·) ++ combR m (lo + 1) (r + 1)
theorem combR_zero (m lo : Nat) : combR m lo 0 = [[]] := by cases m <;> rfl
theorem combR_none : ∀ (m lo r : Nat), m < r → combR m lo r = []
  | _, _, 0, h => absurd h (Nat.not_lt_zero _)
  | 0, _, _ + 1, _ => rfl
  | m + 1, lo, r + 1, h => by rw [combR, combR_none m (lo + 1) r (by omega), combR_none m (lo + 1) (r + 1) (by omega)]; rfl
theorem combR_len : ∀ (m lo r : Nat) (a : List Nat), a ∈ combR m lo r → a.length = r
  | m, lo, 0, a, h => by
    rw [combR_zero] at h
    rw [List.mem_singleton.mp h]
    rfl
  | 0, _, _ + 1, _, h => nomatch h
  | m + 1, lo, r + 1, a, h => by
    rw [combR] at h
    rcases List.mem_append.mp h with z | z
    · obtain ⟨b, hb, rfl⟩ := List.mem_map.mp z
      rw [List.length_cons, combR_len m (lo + 1) r b hb]
    · exact combR_len m (lo + 1) (r + 1) a z
theorem combR_head : ∀ (m lo r : Nat), r ≤ m → (combR m lo r)[0]? = some ((List.range r).map (lo + ·))
  | m, lo, 0, _ => by rw [combR_zero]; rfl
  | m + 1, lo, r + 1, h => by
    rw [combR, List.getElem?_append_left (by
      have := combR_head m (lo + 1) r (by omega)
      rw [List.length_map]
      exact (List.getElem?_eq_some_iff.mp this).1), List.getElem?_map, combR_head m (lo + 1) r (by omega)]
    show some (lo :: (List.range r).map (lo + 1 + ·)) = _
    congr 1
    rw [List.range_succ_eq_map, List.map_cons, List.map_map]
    congr 1
    exact List.map_congr_left fun x _ => by
      show lo + 1 + x = lo + (x + 1)
      omega
theorem next_cons (n x : Nat) (xs : List Nat) (h : xs.length + 1 ≤ n) : nextC n (x :: xs) = match nextC n xs with
    | some ys => some (x :: ys)
    | none => if x != n - (xs.length + 1) then some ((List.range (xs.length + 1)).map (x + 1 + ·)) else none := by
  unfold nextC
  rw [List.length_cons, List.range_succ_eq_map, List.reverse_cons, List.find?_append, ← List.map_reverse, List.find?_map]
  have e : ((fun i => (x :: xs).getD i 0 != i + n - (xs.length + 1)) ∘ Nat.succ) = fun i => xs.getD i 0 != i + n - xs.length := funext fun i => by
    show (xs.getD i 0 != i + 1 + n - (xs.length + 1)) = _
    rw [show i + 1 + n - (xs.length + 1) = i + n - xs.length by omega]
  rw [e]
  cases c : (List.range xs.length).reverse.find? fun i => xs.getD i 0 != i + n - xs.length with
  | some i =>
    show some ((x :: xs).take (i + 1) ++ (List.range (xs.length + 1 - (i + 1))).map ((x :: xs).getD (i + 1) 0 + 1 + ·)) = some (x :: (xs.take i ++ (List.range (xs.length - i)).map (xs.getD i 0 + 1 + ·)))
    rw [List.take_succ_cons, show xs.length + 1 - (i + 1) = xs.length - i by omega]
    rfl
  | none =>
    show (match (List.find? (fun i => (x :: xs).getD i 0 != i + n - (xs.length + 1)) [0]) with
      | none => none
      | some i => some ((x :: xs).take i ++ (List.range (xs.length + 1 - i)).map ((x :: xs).getD i 0 + 1 + ·))) = _
    rw [List.find?_cons, List.find?_nil]
    show (match (match x != 0 + n - (xs.length + 1) with | true => some 0 | false => none) with
      | none => none
      | some i => some ((x :: xs).take i ++ (List.range (xs.length + 1 - i)).map ((x :: xs).getD i 0 + 1 + ·))) = _
    rw [Nat.zero_add]
    cases (x != n - (xs.length + 1)) with
    | true =>
      rw [← List.range_succ_eq_map]
      rfl
    | false => rfl
theorem combR_next : ∀ (m lo r n : Nat), lo + m = n → ∀ (i : Nat) (a : List Nat), (combR m lo r)[i]? = some a → nextC n a = (combR m lo r)[i + 1]?
  | m, lo, 0, n, _, i, a, h => by
    rw [combR_zero] at h ⊢
    cases i with
    | zero => cases h; rfl
    | succ i => cases h
  | 0, _, _ + 1, _, _, _, _, h => nomatch h
  | m + 1, lo, r + 1, n, hn, i, a, h => by
    rw [combR] at h ⊢
    by_cases c : i < (combR m (lo + 1) r).length
    · rw [List.getElem?_append_left (by rw [List.length_map]; exact c), List.getElem?_map] at h
      obtain ⟨b, hb, rfl⟩ := Option.map_eq_some_iff.mp h
      have hlen := combR_len m (lo + 1) r b (List.mem_of_getElem? hb)
      have hrm : r ≤ m := Nat.le_of_not_lt fun z => by rw [combR_none m (lo + 1) r z] at c; exact Nat.not_lt_zero _ c
      rw [next_cons n lo b (by omega), combR_next m (lo + 1) r n (by omega) i b hb]
      by_cases c2 : i + 1 < (combR m (lo + 1) r).length
      · rw [List.getElem?_append_left (by rw [List.length_map]; exact c2), List.getElem?_map, List.getElem?_eq_getElem c2]
        rfl
      · rw [List.getElem?_eq_none (by omega), List.getElem?_append_right (by rw [List.length_map]; omega), List.length_map, show i + 1 - (combR m (lo + 1) r).length = 0 by omega]
        show (if (lo != n - (b.length + 1)) = true then _ else none) = _
        rw [hlen]
        by_cases c3 : r + 1 ≤ m
        · rw [if_pos (by rw [bne_iff_ne]; omega), combR_head m (lo + 1) (r + 1) c3]
        · rw [if_neg (by rw [bne_iff_ne]; omega), combR_none m (lo + 1) (r + 1) (by omega)]
          rfl
    · rw [List.getElem?_append_right (by rw [List.length_map]; omega), List.length_map] at h
      rw [combR_next m (lo + 1) (r + 1) n (by omega) _ a h, List.getElem?_append_right (by rw [List.length_map]; omega), List.length_map]
      congr 1
      omega
/-- the choices of r of these things, in their order -/
def combL {α : Type} : List α → Nat → List (List α)
  | _, 0 => [[]]
  | [], _ + 1 => []
  | x :: xs, r + 1 => (combL xs r).map (x :: ·) ++ combL xs (r + 1)
theorem combL_zero {α : Type} (xs : List α) : combL xs 0 = [[]] := by cases xs <;> rfl
theorem combR_pick {α : Type} (d : α) (full : List α) : ∀ (m lo r : Nat), lo + m = full.length → (combR m lo r).map (fun idx => idx.map fun i => full.getD i d) = combL (full.drop lo) r
  | m, lo, 0, _ => by rw [combR_zero, combL_zero]; rfl
  | 0, lo, r + 1, h => by
    rw [List.drop_of_length_le (by omega)]
    rfl
  | m + 1, lo, r + 1, h => by
    have hlo : lo < full.length := by omega
    rw [List.drop_eq_getElem_cons hlo, combR, combL, List.map_append, List.map_map, ← combR_pick d full m (lo + 1) r (by omega), ← combR_pick d full m (lo + 1) (r + 1) (by omega), List.map_map]
    congr 1
    refine List.map_congr_left fun idx _ => ?_
    show full.getD lo d :: _ = full[lo] :: _
    rw [List.getD_eq_getElem?_getD, List.getElem?_eq_getElem hlo]
    rfl
theorem combL_map {α β : Type} (f : α → β) : ∀ (xs : List α) (r : Nat), combL (xs.map f) r = (combL xs r).map (List.map f)
  | xs, 0 => by rw [combL_zero, combL_zero]; rfl
  | [], r + 1 => rfl
  | x :: xs, r + 1 => by
    rw [List.map_cons, combL, combL, combL_map f xs r, combL_map f xs (r + 1), List.map_append, List.map_map, List.map_map]
    rfl
theorem mem_combL {α : Type} : ∀ {xs : List α} {r : Nat} {a : List α}, a ∈ combL xs r ↔ a.Sublist xs ∧ a.length = r
  | xs, 0, a => by
    rw [combL_zero, List.mem_singleton]
    exact ⟨fun h => by rw [h]; exact ⟨List.nil_sublist _, rfl⟩, fun h => List.eq_nil_of_length_eq_zero h.2⟩
  | [], r + 1, a => by
    constructor
    · exact fun h => nomatch h
    · rintro ⟨h1, h2⟩
      rw [List.sublist_nil.mp h1] at h2
      cases h2
  | x :: xs, r + 1, a => by
    rw [combL, List.mem_append, List.mem_map]
    constructor
    · rintro (⟨b, hb, rfl⟩ | h)
      · obtain ⟨h1, h2⟩ := mem_combL.mp hb
        exact ⟨h1.cons₂ x, by rw [List.length_cons, h2]⟩
      · obtain ⟨h1, h2⟩ := mem_combL.mp h
        exact ⟨h1.cons x, h2⟩
    · rintro ⟨h1, h2⟩
      cases h1 with
      | cons _ h => exact .inr (mem_combL.mpr ⟨h, h2⟩)
      | cons_cons _ h => exact .inl ⟨_, mem_combL.mpr ⟨h, by simpa using h2⟩, rfl⟩
end CpComb
end
section
set_option Elab.async false
set_option linter.all false
set_option maxRecDepth 100000
set_option maxHeartbeats 4000000
namespace L2
open PySem PySem.Spec PyProof.Rows CpComb
/-- the choices of r of xs, each in a new tuple -/
def Itm (xs : List V) (r : Nat) : It :=
  ⟨fun i _ => i < (combL xs r).length, fun i H v H' => ∃ T c, v = .ref T ∧ H T = none ∧ (combL xs r)[i]? = some c ∧ H' = upd H T (.tup c), fun i _ => (combL xs r).length ≤ i⟩
def TnC (it P : Addr) (us : List Value) (r : Nat) (i : Nat) (h : Heap) : Prop :=
  (∃ oP n, h.get? P = some oP ∧ oP.data = .seq us.toArray n) ∧ P ≠ it ∧ ∃ st last idx, IsCmb h it P st last idx ∧
    ((i = 0 ∧ r ≤ us.length ∧ st = 0 ∧ idx = List.range r) ∨ (us.length < r ∧ st = 2) ∨ (1 ≤ i ∧ r ≤ us.length ∧ st = 1 ∧ (combR us.length 0 r)[i - 1]? = some idx))
theorem pick_comb (us : List Value) (r : Nat) : (combR us.length 0 r).map (pickT us.toArray) = combL us r := by
  have := combR_pick Value.none us us.length 0 r (by omega)
  rw [List.drop_zero] at this
  rw [← this]
  refine List.map_congr_left fun idx _ => ?_
  unfold pickT
  refine List.map_congr_left fun i _ => ?_
  simp [Array.getD, List.getD_eq_getElem?_getD]
  split
  · rename_i h
    rw [List.getElem?_eq_getElem h]
    rfl
  · rename_i h
    rw [List.getElem?_eq_none (by omega)]
    rfl
theorem len_comb {α β : Type} : ∀ {xs : List α} {ys : List β} (r : Nat), xs.length = ys.length → (combL xs r).length = (combL ys r).length
  | xs, ys, 0, _ => by rw [combL_zero, combL_zero]; rfl
  | [], [], r + 1, _ => rfl
  | x :: xs, y :: ys, r + 1, h => by
    have h' : xs.length = ys.length := by simpa using h
    rw [combL, combL, List.length_append, List.length_append, List.length_map, List.length_map, len_comb r h', len_comb (r + 1) h']
theorem vals_comb : ∀ {xs : List V} {us : List Value} (_ : Vals xs us) (r i : Nat) {c : List V} (_ : (combL xs r)[i]? = some c), ∃ ws, (combL us r)[i]? = some ws ∧ Vals c ws
  | xs, us, rv, 0, i, c, h => by
    rw [combL_zero] at h ⊢
    cases i with
    | zero => cases h; exact ⟨[], rfl, .nil⟩
    | succ i => cases h
  | _, _, .nil, r + 1, i, c, h => nomatch h
  | x :: xs, u :: us, .cons r1 rv, r + 1, i, c, h => by
    have hl := len_comb r rv.length
    rw [combL] at h ⊢
    by_cases z : i < (combL xs r).length
    · rw [List.getElem?_append_left (by rw [List.length_map]; exact z), List.getElem?_map] at h
      obtain ⟨b, hb, rfl⟩ := Option.map_eq_some_iff.mp h
      obtain ⟨ws, h1, h2⟩ := vals_comb rv r i hb
      exact ⟨u :: ws, by rw [List.getElem?_append_left (by rw [List.length_map, ← hl]; exact z), List.getElem?_map, h1]; rfl, .cons r1 h2⟩
    · rw [List.getElem?_append_right (by rw [List.length_map]; omega), List.length_map] at h
      obtain ⟨ws, h1, h2⟩ := vals_comb rv (r + 1) _ h
      exact ⟨ws, by rw [List.getElem?_append_right (by rw [List.length_map, ← hl]; omega), List.length_map, ← hl]; exact h1, h2⟩
theorem len_combR (us : List Value) (r : Nat) : (combR us.length 0 r).length = (combL us r).length := by rw [← pick_comb, List.length_map]
theorem turn_comb {P' : Program} {w : World} {K : PySem.W.Frag} {tg : Expr} {xs : List V} {us : List Value} (rv : Vals xs us) (hz : us.length ≤ 1000) (it P : Addr) (r : Nat) (hr : r ≤ 1000) : Turn P' w K tg (Itm xs r) [it, P] it (TnC it P us r) where
  mem := by simp
  obj := fun i h st b hb => by
    obtain ⟨⟨oP, n, hP, hd⟩, _, s1, last, idx, hc, _⟩ := st
    have e' : b = it ∨ b = P := by simpa using hb
    rcases e' with z | z
    · rw [z]; exact ⟨_, hc, fun v q => nomatch q⟩
    · rw [z]; exact ⟨_, hP, fun v q => by rw [hd] at q; cases q⟩
  keep := fun i h h' st k => by
    obtain ⟨⟨oP, n, hP, hd⟩, hne, s1, last, idx, hc, q⟩ := st
    exact ⟨⟨oP, n, k P (by simp) _ hP, hd⟩, hne, s1, last, idx, k it (by simp) _ hc, q⟩
  item := by
    intro X hP' hw hK hcalm i pins s σ H E I hf st hg
    subst hP' hw hK
    obtain ⟨⟨oP, n, hP, hd⟩, hne, s1, last, idx, hc, q⟩ := st
    have hl : us.length = xs.length := rv.length.symm
    have hg : i < (combL xs r).length := hg
    have hgu : i < (combL us r).length := by rw [len_comb r hl]; exact hg
    have hrl : r ≤ us.length := Nat.le_of_not_lt fun z => by
      rw [← len_combR, combR_none us.length 0 r z] at hgu
      exact Nat.not_lt_zero _ hgu
    obtain ⟨ws, hws, rw'⟩ := vals_comb rv r i (List.getElem?_eq_getElem hg)
    have hgR : i < (combR us.length 0 r).length := by rw [len_combR]; exact hgu
    obtain ⟨nx, hnx⟩ : ∃ nx, (combR us.length 0 r)[i]? = some nx := ⟨_, List.getElem?_eq_getElem hgR⟩
    have hpick : pickT us.toArray nx = ws := by
      have := hws
      rw [← pick_comb, List.getElem?_map, hnx] at this
      exact Option.some.inj this
    have hnl : nx.length = r := combR_len _ _ _ nx (List.mem_of_getElem? hnx)
    have fin : ∀ h', GaveC it P us.toArray nx s h' → ∃ u, some (Value.ref s.heap.objs.size) = some u ∧
        wpAny (model X.prog X.w) X.A (letOwnedTupleGo tg (.ref it) u) (fun _ s2 => ∃ x H', Inv X pins σ H' s2 ∧ RelV x u ∧ (Itm xs r).yld i H x H' ∧ TnC it P us r (i + 1) s2.heap ∧ ∀ b ∈ [it, P], H' b = none) E { s with heap := h' } := by
      rintro h' ⟨g1, g2, g3⟩
      rw [hpick] at g2
      refine ⟨_, rfl, go_of (s := { s with heap := h' }) (n := "itertools.combinations") g1 rfl rfl (by decide) ?_⟩
      have hil : it < s.heap.objs.size := Heap.lt_size hc
      have hPl : P < s.heap.objs.size := Heap.lt_size hP
      have hcl : (combL xs r)[i].length ≤ sizeLine := by
        rw [rw'.length, ← hpick]
        unfold pickT
        rw [List.length_map, hnl, sizeLine_eq]
        omega
      have new : ObjOk X.prog X.w (upd H s.heap.objs.size (.tup (combL xs r)[i])) h' s.heap.objs.size (.tup (combL xs r)[i]) := ⟨hcl, ws, rw', ⟨_, g2, rfl, _, rfl⟩⟩
      have I1 : Inv X pins σ (upd H s.heap.objs.size (.tup (combL xs r)[i])) { s with heap := h' } :=
        I.turnedNew (t' := s.toks) (ch := [it, P]) (fun b ob hb q => g3 b ob (fun z => hb (by simp [z])) q) hf (Nat.le_refl _) new
      refine ⟨.ref s.heap.objs.size, _, I1, rfl, ⟨_, _, rfl, I.hok.fresh (Nat.le_refl _), List.getElem?_eq_getElem hg, rfl⟩, ⟨⟨oP, n, g3 P oP hne hP, hd⟩, hne, 1, _, nx, g1, .inr (.inr ⟨Nat.succ_pos _, hrl, rfl, hnx⟩)⟩, fun b hb => ?_⟩
      have hb' : b < s.heap.objs.size := by
        have e' : b = it ∨ b = P := by simpa using hb
        rcases e' with z | z
        · rw [z]; exact hil
        · rw [z]; exact hPl
      rw [upd_ne (Nat.ne_of_lt hb')]
      exact (hf b hb).1
    rcases q with ⟨rfl, _, rfl, rfl⟩ | ⟨z, _⟩ | ⟨i1, _, rfl, hi⟩
    · have e0 := combR_head us.length 0 r hrl
      rw [hnx] at e0
      have e1 : nx = List.range r := by
        rw [Option.some.inj e0]
        simp
      refine CpComb.next_first hc hP hd hne (by rw [List.length_range]; exact hr) fun h' g => fin h' (by rw [e1]; exact g)
    · omega
    · have hx := combR_next us.length 0 r us.length (by omega) (i - 1) idx hi
      rw [show i - 1 + 1 = i by omega, hnx] at hx
      refine CpComb.next_step hc hP hd hne (nx := nx) (by rw [List.size_toArray]; exact hx) (by omega) fin
  done := by
    intro X hP' hw hK hcalm i pins s σ H E I hf st hg
    subst hP' hw hK
    obtain ⟨⟨oP, n, hP, hd⟩, hne, s1, last, idx, hc, q⟩ := st
    have hl : us.length = xs.length := rv.length.symm
    have hg : (combL xs r).length ≤ i := hg
    have hgR : (combR us.length 0 r).length ≤ i := by rw [len_combR, len_comb r hl]; exact hg
    obtain ⟨f0, f1, f2, f3, f4, f5⟩ := hf it (by simp)
    have fin : ∀ h', Heap.ExtBut it s.heap h' → none = (none : Option Value) ∧ Inv X pins σ H { s with heap := h' } := fun h' eb => ⟨rfl, I.turned (t' := s.toks) (fun b o hb e => eb b o hb e) f0 f1 f3 f4 f5⟩
    rcases q with ⟨rfl, hrl, rfl, rfl⟩ | ⟨_, rfl⟩ | ⟨i1, _, rfl, hi⟩
    · have := (List.getElem?_eq_some_iff.mp (combR_head us.length 0 r hrl)).1
      omega
    · exact CpComb.next_over (I.ok.hd hcalm) hc fin
    · have hx := combR_next us.length 0 r us.length (by omega) (i - 1) idx hi
      rw [show i - 1 + 1 = i by omega, List.getElem?_eq_none hgR] at hx
      exact CpComb.next_end (I.ok.hd hcalm) hc hP hd (by rw [List.size_toArray]; exact hx) fin
  self := fun A i s Q E st h => by
    obtain ⟨_, _, s1, last, idx, hc, _⟩ := st
    exact iter_cmb hc h
end L2
end
section
set_option Elab.async false
set_option linter.all false
set_option maxRecDepth 100000
set_option maxHeartbeats 4000000
namespace L2
open PySem PySem.Spec PyProof.Rows CpComb
section
variable {X : Cx} {tg : Expr}
/-- a combinations object just made, walked -/
theorem cmb_it {pins : List (Addr × Obj)} {σ : St} {H : Hp} {s : Shared} {R : It → Hp → Prop} {E : Value → Shared → Prop} {xs : List V} {us : List Value} {r : Nat} {h1 h' : Heap} (I : Inv X pins σ H s) (rv : Vals xs us) (hl : us.length ≤ 1000) (hr : r ≤ 1000)
    (k1 : ∀ b o, s.heap.get? b = some o → h1.get? b = some o)
    (hit : IsCmb h' (h1.objs.size + 1) h1.objs.size (if (r : Int).toNat > us.length then 2 else 0) .none (List.range (r : Int).toNat)) (hP : h'.get? h1.objs.size = some { cls := .type "tuple", data := .seq us.toArray }) (k2 : ∀ b o, h1.get? b = some o → h'.get? b = some o)
    (q : R (Itm xs r) H) : wpAny (model X.prog X.w) X.A (pyIter (.ref (h1.objs.size + 1))) (PIE X pins σ tg R) E { s with heap := h' } := by
  rw [Int.toNat_natCast] at hit
  have I1 : Inv X pins σ H { s with heap := h1 } := I.kept (t' := s.toks) k1
  refine iter_cmb hit ?_
  refine ⟨h1.objs.size + 1, [h1.objs.size + 1, h1.objs.size], _, Itm xs r, H, rfl, I.kept (t' := s.toks) fun b o e => k2 b o (k1 b o e), turn_comb rv hl (h1.objs.size + 1) h1.objs.size r hr, ⟨⟨_, _, hP, rfl⟩, Nat.ne_of_lt (Nat.lt_succ_self _), _, _, _, hit, ?_⟩, fun b hb => ?_, q⟩
  · by_cases c : r > us.length
    · rw [if_pos c]
      exact .inr (.inl ⟨c, rfl⟩)
    · rw [if_neg c]
      exact .inl ⟨rfl, Nat.le_of_not_lt c, rfl, rfl⟩
  · have hb' : h1.objs.size ≤ b := by
      have e' : b = h1.objs.size + 1 ∨ b = h1.objs.size := by simpa using hb
      rcases e' with z | z
      · rw [z]; exact Nat.le_succ _
      · rw [z]; exact Nat.le_refl _
    exact I1.fpOk hb' (I1.hok.fresh hb')
end
end L2
end
section
set_option Elab.async false
set_option linter.all false
set_option maxRecDepth 100000
set_option maxHeartbeats 4000000
namespace L2
open PySem PySem.Spec PyProof.Rows CpComb
section
variable {X : Cx} {tg : Expr}
def iCombR (te tb : TE) : TI := fun σ H R => te σ H fun x H1 => ∃ n : Nat, x = .int (n : Int) ∧ n ≤ 1000 ∧ tb σ H1 fun y H2 => ∃ r : Nat, y = .int (r : Int) ∧ r ≤ 1000 ∧ R (Itm (rgV 0 n) r) H2
theorem pi_combR {e b : Expr} {te tb : TE} {x : Str} {p p2 pos pos2 : Pos} (hcalm : X.calm = true) (hg : Gl X x) (hm : X.mg x = some (.type "itertools.combinations")) (hg2 : Gl X "range") (hm2 : X.mg "range" = none) (ha : PE X e te) (hb : PE X b tb)
    (na : starEach [e] X.env = (false, eval e X.env) :: starEach [] X.env := by rfl) (hs : starEach [.Call (.Name "range" p2) [e] [] pos2, b] X.env = (false, eval (.Call (.Name "range" p2) [e] [] pos2) X.env) :: starEach [b] X.env := by rfl) (nb : starEach [b] X.env = (false, eval b X.env) :: starEach [] X.env := by rfl)
    (hpl : (backTo pos (starEach [b] X.env)).any (·.1) = false := by rfl) (hd : (x == ("__debug__" : Str)) = false := by decide) : PI X tg (.Call (.Name x p) [.Call (.Name "range" p2) [e] [] pos2, b] [] pos) (iCombR te tb) := by
  refine ⟨fun pins s σ H R I h => ?_⟩
  refine Call_ (ld_glob I hg hm (PyProof.Rows.callWith_type1 (args_cons (Call_ (ld_blt I hg2 hm2 boot_range (PyProof.Rows.callWith_type1 (one_arg ha I h (fun v1 s2 x1 H2 I2 r1 q => ?_) na) na))) hs) hs hpl) hd)
  obtain ⟨n, rfl, hn, q⟩ := q
  obtain ⟨t, rfl⟩ := r1
  refine call_range_1 ?_
  have hro := IsRange.new s2.heap 0 (n : Int) 1 s2.toks t (s2.toks + 1)
  have I3 : Inv X pins σ H2 { s2 with heap := s2.heap.push { cls := .type "range", data := .fields #[.int 0 s2.toks, .int (n : Int) t, .int 1 (s2.toks + 1)] }, toks := s2.toks + 1 + 1 } := I2.kept (t' := s2.toks + 1 + 1) fun b o e => Heap.get?_push_of_some _ e
  generalize hs3 : ({ s2 with heap := s2.heap.push { cls := .type "range", data := .fields #[.int 0 s2.toks, .int (n : Int) t, .int 1 (s2.toks + 1)] }, toks := s2.toks + 1 + 1 } : Shared) = s3 at I3
  have hr3 : IsRange s3.heap s2.heap.objs.size 0 (n : Int) 1 s2.toks t (s2.toks + 1) := by rw [← hs3]; exact hro
  have fp : ∀ b ∈ [s2.heap.objs.size], FpOk X pins H2 b := fun b hb => by
    rw [List.mem_singleton.mp hb]
    exact I2.fpOk (Nat.le_refl _) (I2.hok.fresh (Nat.le_refl _))
  have I4 := I3.pinned fp fun b hb => by
    rw [List.mem_singleton.mp hb]
    exact ⟨_, hr3, fun v q => nomatch q⟩
  refine args_cons (thn (hb.run _ _ σ H2 _ I4 q) fun w s5 ⟨y, H5, I5, r5, q5⟩ => args_nil ?_) nb
  obtain ⟨r, rfl, hr, q5⟩ := q5
  obtain ⟨t2, rfl⟩ := r5
  have hR : IsRange s5.heap s2.heap.objs.size 0 (n : Int) 1 s2.toks t (s2.toks + 1) := (I5.pin (_, _) (List.mem_append_right _ (List.mem_append_right _ (mem_pinsAt (List.mem_singleton.mpr rfl) hr3)))).1
  have I6 := I5.unpinned
  refine call_cmb (by omega) (by omega) fun prog' w' => ?_
  refine collect_range (n := ((n : Int) - 0).toNat) (I6.ok.hd hcalm) hR (small_one (by omega) (by omega) (by omega) (by omega)) (by rw [rangeSize_one]; split <;> omega) (by omega) fun h1 tk acc k1 items => ?_
  have rv := vals_rg items
  have hlen : acc.toList.length ≤ 1000 := by rw [← rv.length, rgV_length]; omega
  refine ⟨hlen, fun h' hit hP k2 => ?_⟩
  exact cmb_it (s := { s5 with toks := tk }) (h1 := h1) (I6.tok tk) rv hlen hr k1 hit hP k2 q5
end
end L2
end
section
set_option Elab.async false
set_option linter.all false
set_option maxRecDepth 100000
set_option maxHeartbeats 4000000
namespace DL
open PySem PySem.Spec L2 PyProof.Rows CpComb
section
variable {P : Program} {w : World} {K : PySem.W.Frag} {mg : Str → Option Value} {base : Heap} {X : Cx} {N : List Str} {sc fs : Scope} {k : Nat}
theorem rvs_comb {F : Hp} : ∀ {vs : List V} {xs : List DV} (_ : RVs K F vs xs) (r i : Nat) {y : List DV} (_ : (combL xs r)[i]? = some y), ∃ c, (combL vs r)[i]? = some c ∧ RVs K F c y
  | vs, xs, rv, 0, i, y, h => by
    rw [combL_zero] at h ⊢
    cases i with
    | zero => cases h; exact ⟨[], rfl, .nil⟩
    | succ i => cases h
  | _, _, .nil, r + 1, i, y, h => nomatch h
  | v :: vs, x :: xs, .cons r1 rv, r + 1, i, y, h => by
    have hl := len_comb r rv.length
    rw [combL] at h ⊢
    by_cases z : i < (combL xs r).length
    · rw [List.getElem?_append_left (by rw [List.length_map]; exact z), List.getElem?_map] at h
      obtain ⟨b, hb, rfl⟩ := Option.map_eq_some_iff.mp h
      obtain ⟨ws, h1, h2⟩ := rvs_comb rv r i hb
      exact ⟨v :: ws, by rw [List.getElem?_append_left (by rw [List.length_map, hl]; exact z), List.getElem?_map, h1]; rfl, .cons r1 h2⟩
    · rw [List.getElem?_append_right (by rw [List.length_map]; omega), List.length_map] at h
      obtain ⟨ws, h1, h2⟩ := rvs_comb rv (r + 1) _ h
      exact ⟨ws, by rw [List.getElem?_append_right (by rw [List.length_map, hl]; omega), List.length_map, hl]; exact h1, h2⟩
theorem comb_src {F0 : Hp} {vs : List V} {xs : List DV} (rv : RVs K F0 vs xs) (r : Nat) : Src K F0 (Itm vs r) ((combL xs r).map mkT) (fun _ => True) := fun F H st e R iv => by
  have hl : (combL vs r).length = (combL xs r).length := len_comb r rv.length
  refine ⟨fun i x hx => ?_, by show (combL vs r).length ≤ _; rw [List.length_map, hl]; exact Nat.le_refl _⟩
  rw [List.getElem?_map] at hx
  obtain ⟨y, hy, rfl⟩ := Option.map_eq_some_iff.mp hx
  obtain ⟨c, hc, rc⟩ := rvs_comb rv r i hy
  refine ⟨(List.getElem?_eq_some_iff.mp hc).1, fun v H' ⟨T, c', e1, hT, hc', e2⟩ => ?_⟩
  subst e1 e2
  rw [hc] at hc'
  cases hc'
  obtain ⟨R', t⟩ := R.frz (o := .tup c) hT
  exact ⟨_, t, R', mkT_rv upd_same ((rc.mono e).mono t.ex)⟩
def qiCombR (te tb : TD) : TDi := fun ε st Q => te ε st fun x s1 => match x with
  | .d (.int n) => (0 ≤ n ∧ n ≤ 1000) ∧ tb ε s1 fun y s2 => (match y with
    | .d (.int r) => (0 ≤ r ∧ r ≤ 1000) ∧ Q ((combL (rngD 0 n.toNat) r.toNat).map mkT) (fun _ => True) s2
    | _ => False)
  | _ => False
theorem di_combR {tg e b : Expr} {te tb : TD} {x : Str} {p p2 pos pos2 : Pos} (c : Cok P w K mg base X N sc fs k) (hg : glB sc x = true) (hm : mg x = some (.type "itertools.combinations")) (hg2 : glB sc "range" = true) (hm2 : mg "range" = none) (he : DE X e te) (hb : DE X b tb)
    (na : starEach [e] X.env = (false, eval e X.env) :: starEach [] X.env := by rfl) (hs : starEach [.Call (.Name "range" p2) [e] [] pos2, b] X.env = (false, eval (.Call (.Name "range" p2) [e] [] pos2) X.env) :: starEach [b] X.env := by rfl) (nb : starEach [b] X.env = (false, eval b X.env) :: starEach [] X.env := by rfl)
    (hpl : (backTo pos (starEach [b] X.env)).any (·.1) = false := by rfl) : DI X tg (.Call (.Name x p) [.Call (.Name "range" p2) [e] [] pos2, b] [] pos) (qiCombR te tb) := by
  obtain ⟨t1, p1, a1⟩ := he
  obtain ⟨t2, p2', a2⟩ := hb
  have g := gl_of c hg
  have g2 := gl_of c hg2
  refine ⟨⟨_, pi_combR c.calm g.1 (by rw [c.hmg]; exact hm) g2.1 (by rw [c.hmg]; exact hm2) p1 p2' na hs nb hpl g.2.2, fun F σ H ε st Qd R' R E h kk => ?_⟩⟩
  refine a1 F σ H ε st _ _ R E h fun F1 v H1 x1 s1 st1 R1 r1 q => ?_
  split at q
  rotate_left
  · exact q.elim
  rename_i n
  cases rv_int r1
  obtain ⟨⟨n0, n1⟩, q⟩ := q
  refine ⟨n.toNat, by rw [show ((n.toNat : Nat) : Int) = n by omega], by omega, ?_⟩
  refine a2 F1 σ H1 ε s1 _ _ R1 (E.mono st1.ex) q fun F2 u H2 y1 s2 st2 R2 r2 q => ?_
  split at q
  rotate_left
  · exact q.elim
  rename_i r
  cases rv_int r2
  obtain ⟨⟨r0, r1⟩, q⟩ := q
  refine ⟨r.toNat, by rw [show ((r.toNat : Nat) : Int) = r by omega], by omega, ?_⟩
  have rv : RVs X.K F2 (rgV 0 ((n.toNat : Nat) : Int)) (rngD 0 n.toNat) := by
    have := rg_rvs (K := X.K) (F := F2) ((n.toNat : Nat) : Int)
    rwa [Int.toNat_natCast] at this
  exact kk F2 _ H2 _ _ s2 (st1.trans st2) R2 (comb_src rv r.toNat) q
end
end DL
end
section
set_option linter.all false
set_option maxRecDepth 100000
namespace RD
open PySem L2 DL
/-- product_of_vertices(v, face) slots: 0=v 1=face 2=vertex -/
def rd_product_of_vertices : TDs :=
  (qRet (qCB qTupleC (qCons (qLc false (qiRng1 (qCons (qv 0) qNil)) (qgN 2) qYes (qIf (qTest (qOp (qIn false) (qv 2) (qv 1))) (qc (.d (.int 1))) (qc (.d (.int 0)))) [2]) qNil)))
/-- edge_ideal(graph) slots: 0=graph 1=edge -/
def rd_edge_ideal (sp_product_of_vertices : SpD) (sp_made : SpD) : TDs :=
  (qRet (qCall sp_made (qCons (qOp qIx (qv 0) (qc (.d (.int 0)))) (qCons (qLc false (qiSeq (qOp qIx (qv 0) (qc (.d (.int 1))))) (qgN 1) qYes (qCall sp_product_of_vertices (qCons (qOp qIx (qv 0) (qc (.d (.int 0)))) (qCons (qv 1) qNil))) [1]) qNil))))
/-- neighbours_of(graph) slots: 0=graph 1=found 2=one 3=other 4=vertex 5=row -/
def rd_neighbours_of : TDs :=
  (qSeq (qAsg (qLc true (qiRng1 (qCons (qOp qIx (qv 0) (qc (.d (.int 0)))) qNil)) (qgN 4) qYes (qLst true qNil) [4]) (qgN 1))
  (qSeq (qFor (qiSeq (qOp qIx (qv 0) (qc (.d (.int 1))))) (qgT 2 (qgCons (qgN 2) (qgCons (qgN 3) qgNil))) (qSeq (qDrop (qAppend (qOp qIx (qv 1) (qv 2)) (qv 3)))
      (qDrop (qAppend (qOp qIx (qv 1) (qv 3)) (qv 2)))))
  (qRet (qLc false (qiSeq (qv 1)) (qgN 5) qYes (qSortD false (qv 5)) [5]))))
/-- is_cover(graph, vertices) slots: 0=graph 1=vertices 2=one 3=other -/
def rd_is_cover : TDs :=
  (qRet (qCB qAll (qCons (qLc false (qiSeq (qOp qIx (qv 0) (qc (.d (.int 1))))) (qgT 2 (qgCons (qgN 2) (qgCons (qgN 3) qgNil))) qYes (qOrV (qOp (qIn false) (qv 2) (qv 1)) (qOp (qIn false) (qv 3) (qv 1))) [2, 3]) qNil)))
/-- is_least_cover(graph, near, vertices) slots: 0=graph 1=near 2=vertices 3=vertex 4=other -/
def rd_is_least_cover (sp_is_cover : SpD) : TDs :=
  (qSeq (qIfS (qNotT (qTest (qCall sp_is_cover (qCons (qv 0) (qCons (qv 2) qNil))))) (qRet (qc (.d (.bool false)))) qNext)
  (qSeq (qFor (qiSeq (qv 2)) (qgN 3) (qIfS (qTest (qCB qAll (qCons (qLc false (qiSeq (qOp qIx (qv 1) (qv 3))) (qgN 4) qYes (qOp (qIn false) (qv 4) (qv 2)) [4]) qNil))) (qRet (qc (.d (.bool false)))) qNext))
  (qRet (qc (.d (.bool true))))))
/-- cover_ideal(graph) slots: 0=graph 1=n 2=near 3=found 4=size 5=vertices -/
def rd_cover_ideal (sp_neighbours_of : SpD) (sp_is_least_cover : SpD) (sp_product_of_vertices : SpD) (sp_made : SpD) : TDs :=
  (qSeq (qPar3 1 2 3 (qCons (qOp qIx (qv 0) (qc (.d (.int 0)))) (qCons (qCall sp_neighbours_of (qCons (qv 0) qNil)) (qCons (qLst true qNil) qNil))))
  (qSeq (qFor (qiRng1 (qCons (qOp (qAdd false) (qv 1) (qc (.d (.int 1)))) qNil)) (qgN 4) (qFor (qiCombR (qv 1) (qv 4)) (qgN 5) (qIfS (qTest (qCall sp_is_least_cover (qCons (qv 0) (qCons (qv 2) (qCons (qv 5) qNil))))) (qDrop (qAppend (qv 3) (qCall sp_product_of_vertices (qCons (qv 1) (qCons (qv 5) qNil))))) qNext)))
  (qRet (qCall sp_made (qCons (qv 1) (qCons (qv 3) qNil))))))
/-- least_cover(graph) slots: 0=graph 1=size 2=vertices -/
def rd_least_cover (sp_is_cover : SpD) : TDs :=
  (qSeq (qFor (qiRng1 (qCons (qOp (qAdd false) (qOp qIx (qv 0) (qc (.d (.int 0)))) (qc (.d (.int 1)))) qNil)) (qgN 1) (qFor (qiCombR (qOp qIx (qv 0) (qc (.d (.int 0)))) (qv 1)) (qgN 2) (qIfS (qTest (qCall sp_is_cover (qCons (qv 0) (qCons (qv 2) qNil)))) (qRet (qv 2)) qNext)))
  (qRet (qTup qNil)))
end RD
end
section
set_option linter.all false
set_option maxRecDepth 100000
set_option maxHeartbeats 1000000
open PySem L2 DL RD UC
local macro_rules | `(tactic| walk_at "E") => `(tactic| (try simp only [qAsg, qRet, qDrop, qIfS, qTest, qAndT, qOrT, qNotT, qAndV, qOrV, qNotV, qIf, qOp, qUn, qChain, onB, qv, qc, qgN, qgT, qgCons, qgNil, qCons, qNil, qTup, qLst, qPar, qPar3, qAug, qCB, qCall, qLen, qTupleC, qListC, qMax2, qMin2, qIntC, qSum, qAny, qAll, qIsi, tyName, qAdd, qSub, qMul, qFdiv, qMod, qPow, qI2, qCmpI, qEq, qNe, qLt, qLe, qGt, qGe, qNeg, qIx, qDGet, qDIn, qDPut, qSl, qPart, qNoPart, qNext, qFor, qiSeq, qiRng1, qiRng2, qiZip, qiEnum, qLc, seqSrc, lsrc, titems, litems, sitems, fz, newL, List.getElem?_cons_zero, List.getElem?_cons_succ, List.set_cons_zero, List.set_cons_succ, if_true, if_false, Bool.false_eq_true, ite_true, ite_false, up_same, reduceIte, decide_true, decide_false, true_and, and_true]))
local macro_rules | `(tactic| walk_at "D") => `(tactic| (try simp only [qAsg, qRet, qDrop, qIfS, qTest, qAndT, qOrT, qNotT, qAndV, qOrV, qNotV, qIf, qOp, qUn, qChain, onB, qv, qc, qgN, qgT, qgCons, qgNil, qCons, qNil, qTup, qLst, qPar, qPar3, qAug, qCB, qCall, qLen, qTupleC, qListC, qMax2, qMin2, qIntC, qSum, qAny, qAll, qIsi, tyName, qAdd, qSub, qMul, qFdiv, qMod, qPow, qI2, qCmpI, qEq, qNe, qLt, qLe, qGt, qGe, qNeg, qIx, qDGet, qDIn, qDPut, qSl, qPart, qNoPart, qNext, qFor, qiSeq, qiRng1, qiRng2, qiZip, qiEnum, qLc, seqSrc, lsrc, titems, litems, sitems, fz, newL, List.getElem?_cons_zero, List.getElem?_cons_succ, List.set_cons_zero, List.set_cons_succ, if_true, if_false, Bool.false_eq_true, ite_true, ite_false, up_same, reduceIte, decide_true, decide_false, true_and, and_true, eqv_int, eqv_bool, eqv_TI, eqv_LI, eqv_TT, eqv_LT, eqv_nilL, eqv_nilT, shaped_TI, shaped_LI, shaped_TT, shaped_LT, shaped_int, shaped_bool, shaped_nilL, shaped_nilT, dints_map2, dbools_map2, datas_map, mkT_map, mkT_0, mkT_1, mkT_2, mkT_3, List.length_map, List.length_cons, List.length_nil, List.length_append, List.map_cons, List.map_nil, wipeD, Bool.not_true, Bool.not_false, eq_self, not_true_eq_false, not_false_eq_true, kitB_tt, kitB_ll, kitB_dd, kitB_bb, kitB_ib, kitB_ii, kitB_ss, kitB_tl, kitB_lt, Function.comp, datas, Option.map_some, List.cons_append, List.nil_append, CPow, le_size4, Int.toNat_natCast, rngD0, I_eq, Bo_eq, BS.qSortB, in_IT, in_IL, in_TT, in_TL, qNotN, qIsN, qSortD, qListRg, qDispT, keyX_TI, qGet, qiItems, qLockE, qLockS, qPop, qMaxDf, qLPut, qDNew, qListItems, qListDK, qLc2, qMax1, qMin1, qAppend, qExtend, tints_TI, dv_TI, Option.bind_some, qRetN, atI_0, atI_1, atI_2, mk_appT, mk_snocI, idl, rep_I, Option.map_none, eqv_idl, shaped_idl, Bool.and_self, Bool.true_and, Bool.and_true]))
local macro_rules | `(tactic| walk_at "F") => `(tactic| (try simp only [qAsg, qRet, qDrop, qIfS, qTest, qAndT, qOrT, qNotT, qAndV, qOrV, qNotV, qIf, qOp, qUn, qChain, onB, qv, qc, qgN, qgT, qgCons, qgNil, qCons, qNil, qTup, qLst, qPar, qPar3, qAug, qCB, qCall, qLen, qTupleC, qListC, qMax2, qMin2, qIntC, qSum, qAny, qAll, qIsi, tyName, qAdd, qSub, qMul, qFdiv, qMod, qPow, qI2, qCmpI, qEq, qNe, qLt, qLe, qGt, qGe, qNeg, qIx, qDGet, qDIn, qDPut, qSl, qPart, qNoPart, qNext, qFor, qiRng1, qiRng2, qiZip, qiEnum, qLc, fz, newL, List.getElem?_cons_zero, List.getElem?_cons_succ, List.set_cons_zero, List.set_cons_succ, if_true, if_false, Bool.false_eq_true, ite_true, ite_false, up_same, reduceIte, decide_true, decide_false, true_and, and_true, eqv_int, eqv_bool, eqv_TI, eqv_LI, eqv_TT, eqv_LT, eqv_nilL, eqv_nilT, shaped_TI, shaped_LI, shaped_TT, shaped_LT, shaped_int, shaped_bool, shaped_nilL, shaped_nilT, dints_map2, dbools_map2, datas_map, mkT_map, mkT_0, mkT_1, mkT_2, mkT_3, List.length_map, List.length_cons, List.length_nil, List.length_append, List.map_cons, List.map_nil, wipeD, Bool.not_true, Bool.not_false, eq_self, not_true_eq_false, not_false_eq_true, kitB_tt, kitB_ll, kitB_dd, kitB_bb, kitB_ib, kitB_ii, kitB_ss, kitB_tl, kitB_lt, Function.comp, datas, Option.map_some, List.cons_append, List.nil_append, CPow, le_size4, Int.toNat_natCast, rngD0, I_eq, Bo_eq, BS.qSortB, in_IT, in_IL, in_TT, in_TL, qNotN, qIsN, qSortD, qListRg, qDispT, keyX_TI, qGet, qiItems, qLockE, qLockS, qPop, qMaxDf, qLPut, qDNew, qListItems, qListDK, qLc2, qMax1, qMin1, qAppend, qExtend, tints_TI, dv_TI, Option.bind_some, qRetN, atI_0, atI_1, atI_2, mk_appT, mk_snocI, idl, rep_I, Option.map_none, eqv_idl, shaped_idl, Bool.and_self, Bool.true_and, Bool.and_true]))
namespace UC
open PySem L2 DL RD
theorem alikeC (L : List (List Int)) : PySem.W.AllAlike (L.map TI) := PySem.W.AllAlike.of fun a b => BS.alike_ints2 a b
theorem sortXC (L : List (List Int)) : BS.SortX (L.map TI) := .inr fun d hd => by
  obtain ⟨t, ht, rfl⟩ := List.mem_map.mp hd
  exact ⟨_, rfl⟩
theorem depthC {L : List (List Int)} : ∀ d ∈ L.map TI, d.depth ≤ 16 := fun d hd => by
  obtain ⟨t, ht, rfl⟩ := List.mem_map.mp hd
  have : (TI t).depth ≤ 1 := (sh_TI (n := 0)).2
  omega
theorem sortC {L : List (List Int)} (h : L.Nodup) : (L.map TI).mergeSort leD = (sortU L).map TI := by
  have tr : ∀ x y z : List Int, (!lexL y x) = true → (!lexL z y) = true → (!lexL z x) = true := fun x y z h1 h2 => by
    have a := BS.le_tr (0, x) (0, y) (0, z)
    simp only [BS.le_lexL] at a
    exact a h1 h2
  have tot : ∀ x y : List Int, ((!lexL y x) || !lexL x y) = true := fun x y => by
    have a := BS.le_tot (0, x) (0, y)
    simp only [BS.le_lexL] at a
    exact a
  have e0 : (L.map TI).mergeSort leD = (L.mergeSort fun a b => !lexL b a).map TI :=
    (List.map_mergeSort (f := TI) (s := leD) fun a _ b _ => (show leD (TI a) (TI b) = !lexL b a from by
      show (!PySem.W.dataLt (TI b) (TI a)) = _
      rw [BS.data_lexL]).symm).symm
  rw [e0]
  congr 1
  refine ris_eq ?_ (ris_sortU L) fun x => ?_
  · have nd : (L.mergeSort fun a b => !lexL b a).Nodup := (List.mergeSort_perm _ _).nodup_iff.mpr h
    have pw := List.pairwise_mergeSort tr tot L
    refine List.Pairwise.imp (fun {a b} hab => ?_) (List.Pairwise.and nd pw)
    rcases lexL_tri a b with e | e | e
    · exact e
    · exact absurd e hab.1
    · rw [e] at hab; exact absurd hab.2 (by decide)
  · rw [mem_sortU, (List.mergeSort_perm _ _).mem_iff]
theorem TIs_dv (F : List (List Int)) : List.map DV.d (List.map TI F) = F.map fun a => DV.d (TI a) := by rw [List.map_map]; rfl
end UC
end
section
set_option linter.all false
set_option maxRecDepth 100000
set_option maxHeartbeats 1000000
namespace UC
open PySem L2 DL RD
structure Shw (n : Nat) (d : PyData) : Prop where
  s : d.showable = true
  l : d.leavesShort 13 = true
  h : d.hasDict = false
  b : d.bulk ≤ n
theorem Shw.mono {n m : Nat} {d : PyData} (h : Shw n d) (hm : n ≤ m) : Shw m d := ⟨h.s, h.l, h.h, Nat.le_trans h.b hm⟩
theorem Shw.ok {n : Nat} {d : PyData} (h : Shw n d) (hn : n ≤ 1000000) (hd : d.depth ≤ 16) : reprOk d :=
  ⟨h.s, h.h, hd, PyData.shown_fits_bulk (B := 13) (by decide) (by decide) h.l (Nat.le_trans h.b (by omega))⟩
end UC
end
section
set_option linter.all false
set_option maxRecDepth 100000
set_option maxHeartbeats 1000000
open PySem L2 DL RD UC
local macro_rules | `(tactic| walk_at "E") => `(tactic| (try simp only [qAsg, qRet, qDrop, qIfS, qTest, qAndT, qOrT, qNotT, qAndV, qOrV, qNotV, qIf, qOp, qUn, qChain, onB, qv, qc, qgN, qgT, qgCons, qgNil, qCons, qNil, qTup, qLst, qPar, qPar3, qAug, qCB, qCall, qLen, qTupleC, qListC, qMax2, qMin2, qIntC, qSum, qAny, qAll, qIsi, tyName, qAdd, qSub, qMul, qFdiv, qMod, qPow, qI2, qCmpI, qEq, qNe, qLt, qLe, qGt, qGe, qNeg, qIx, qDGet, qDIn, qDPut, qSl, qPart, qNoPart, qNext, qFor, qiSeq, qiRng1, qiRng2, qiZip, qiEnum, qLc, seqSrc, lsrc, titems, litems, sitems, fz, newL, List.getElem?_cons_zero, List.getElem?_cons_succ, List.set_cons_zero, List.set_cons_succ, if_true, if_false, Bool.false_eq_true, ite_true, ite_false, up_same, reduceIte, decide_true, decide_false, true_and, and_true]))
local macro_rules | `(tactic| walk_at "D") => `(tactic| (try simp only [qAsg, qRet, qDrop, qIfS, qTest, qAndT, qOrT, qNotT, qAndV, qOrV, qNotV, qIf, qOp, qUn, qChain, onB, qv, qc, qgN, qgT, qgCons, qgNil, qCons, qNil, qTup, qLst, qPar, qPar3, qAug, qCB, qCall, qLen, qTupleC, qListC, qMax2, qMin2, qIntC, qSum, qAny, qAll, qIsi, tyName, qAdd, qSub, qMul, qFdiv, qMod, qPow, qI2, qCmpI, qEq, qNe, qLt, qLe, qGt, qGe, qNeg, qIx, qDGet, qDIn, qDPut, qSl, qPart, qNoPart, qNext, qFor, qiSeq, qiRng1, qiRng2, qiZip, qiEnum, qLc, seqSrc, lsrc, titems, litems, sitems, fz, newL, List.getElem?_cons_zero, List.getElem?_cons_succ, List.set_cons_zero, List.set_cons_succ, if_true, if_false, Bool.false_eq_true, ite_true, ite_false, up_same, reduceIte, decide_true, decide_false, true_and, and_true, eqv_int, eqv_bool, eqv_TI, eqv_LI, eqv_TT, eqv_LT, eqv_nilL, eqv_nilT, shaped_TI, shaped_LI, shaped_TT, shaped_LT, shaped_int, shaped_bool, shaped_nilL, shaped_nilT, dints_map2, dbools_map2, datas_map, mkT_map, mkT_0, mkT_1, mkT_2, mkT_3, List.length_map, List.length_cons, List.length_nil, List.length_append, List.map_cons, List.map_nil, wipeD, Bool.not_true, Bool.not_false, eq_self, not_true_eq_false, not_false_eq_true, kitB_tt, kitB_ll, kitB_dd, kitB_bb, kitB_ib, kitB_ii, kitB_ss, kitB_tl, kitB_lt, Function.comp, datas, Option.map_some, List.cons_append, List.nil_append, CPow, le_size4, Int.toNat_natCast, rngD0, I_eq, Bo_eq, BS.qSortB, in_IT, in_IL, in_TT, in_TL, qNotN, qIsN, qSortD, qListRg, qDispT, keyX_TI, qGet, qiItems, qLockE, qLockS, qPop, qMaxDf, qLPut, qDNew, qListItems, qListDK, qLc2, qMax1, qMin1, qAppend, qExtend, tints_TI, dv_TI, Option.bind_some, qRetN, atI_0, atI_1, atI_2, mk_appT, mk_snocI, idl, rep_I, Option.map_none, eqv_idl, shaped_idl, Bool.and_self, Bool.true_and, Bool.and_true]))
local macro_rules | `(tactic| walk_at "F") => `(tactic| (try simp only [qAsg, qRet, qDrop, qIfS, qTest, qAndT, qOrT, qNotT, qAndV, qOrV, qNotV, qIf, qOp, qUn, qChain, onB, qv, qc, qgN, qgT, qgCons, qgNil, qCons, qNil, qTup, qLst, qPar, qPar3, qAug, qCB, qCall, qLen, qTupleC, qListC, qMax2, qMin2, qIntC, qSum, qAny, qAll, qIsi, tyName, qAdd, qSub, qMul, qFdiv, qMod, qPow, qI2, qCmpI, qEq, qNe, qLt, qLe, qGt, qGe, qNeg, qIx, qDGet, qDIn, qDPut, qSl, qPart, qNoPart, qNext, qFor, qiRng1, qiRng2, qiZip, qiEnum, qLc, fz, newL, List.getElem?_cons_zero, List.getElem?_cons_succ, List.set_cons_zero, List.set_cons_succ, if_true, if_false, Bool.false_eq_true, ite_true, ite_false, up_same, reduceIte, decide_true, decide_false, true_and, and_true, eqv_int, eqv_bool, eqv_TI, eqv_LI, eqv_TT, eqv_LT, eqv_nilL, eqv_nilT, shaped_TI, shaped_LI, shaped_TT, shaped_LT, shaped_int, shaped_bool, shaped_nilL, shaped_nilT, dints_map2, dbools_map2, datas_map, mkT_map, mkT_0, mkT_1, mkT_2, mkT_3, List.length_map, List.length_cons, List.length_nil, List.length_append, List.map_cons, List.map_nil, wipeD, Bool.not_true, Bool.not_false, eq_self, not_true_eq_false, not_false_eq_true, kitB_tt, kitB_ll, kitB_dd, kitB_bb, kitB_ib, kitB_ii, kitB_ss, kitB_tl, kitB_lt, Function.comp, datas, Option.map_some, List.cons_append, List.nil_append, CPow, le_size4, Int.toNat_natCast, rngD0, I_eq, Bo_eq, BS.qSortB, in_IT, in_IL, in_TT, in_TL, qNotN, qIsN, qSortD, qListRg, qDispT, keyX_TI, qGet, qiItems, qLockE, qLockS, qPop, qMaxDf, qLPut, qDNew, qListItems, qListDK, qLc2, qMax1, qMin1, qAppend, qExtend, tints_TI, dv_TI, Option.bind_some, qRetN, atI_0, atI_1, atI_2, mk_appT, mk_snocI, idl, rep_I, Option.map_none, eqv_idl, shaped_idl, Bool.and_self, Bool.true_and, Bool.and_true]))
namespace UC
open PySem L2 DL RD
theorem subs_len7 (f : List Int) (h : f.length ≤ 7) : (subsL f).length ≤ 128 := by
  rw [len_subs]
  exact Nat.le_trans (Nat.pow_le_pow_right (by decide) h) (by decide)
end UC
end
section
set_option linter.all false
set_option maxRecDepth 100000
set_option maxHeartbeats 1000000
open PySem L2 DL RD UC
local macro_rules | `(tactic| walk_at "E") => `(tactic| (try simp only [qAsg, qRet, qDrop, qIfS, qTest, qAndT, qOrT, qNotT, qAndV, qOrV, qNotV, qIf, qOp, qUn, qChain, onB, qv, qc, qgN, qgT, qgCons, qgNil, qCons, qNil, qTup, qLst, qPar, qPar3, qAug, qCB, qCall, qLen, qTupleC, qListC, qMax2, qMin2, qIntC, qSum, qAny, qAll, qIsi, tyName, qAdd, qSub, qMul, qFdiv, qMod, qPow, qI2, qCmpI, qEq, qNe, qLt, qLe, qGt, qGe, qNeg, qIx, qDGet, qDIn, qDPut, qSl, qPart, qNoPart, qNext, qFor, qiSeq, qiRng1, qiRng2, qiZip, qiEnum, qLc, seqSrc, lsrc, titems, litems, sitems, fz, newL, List.getElem?_cons_zero, List.getElem?_cons_succ, List.set_cons_zero, List.set_cons_succ, if_true, if_false, Bool.false_eq_true, ite_true, ite_false, up_same, reduceIte, decide_true, decide_false, true_and, and_true]))
local macro_rules | `(tactic| walk_at "D") => `(tactic| (try simp only [qAsg, qRet, qDrop, qIfS, qTest, qAndT, qOrT, qNotT, qAndV, qOrV, qNotV, qIf, qOp, qUn, qChain, onB, qv, qc, qgN, qgT, qgCons, qgNil, qCons, qNil, qTup, qLst, qPar, qPar3, qAug, qCB, qCall, qLen, qTupleC, qListC, qMax2, qMin2, qIntC, qSum, qAny, qAll, qIsi, tyName, qAdd, qSub, qMul, qFdiv, qMod, qPow, qI2, qCmpI, qEq, qNe, qLt, qLe, qGt, qGe, qNeg, qIx, qDGet, qDIn, qDPut, qSl, qPart, qNoPart, qNext, qFor, qiSeq, qiRng1, qiRng2, qiZip, qiEnum, qLc, seqSrc, lsrc, titems, litems, sitems, fz, newL, List.getElem?_cons_zero, List.getElem?_cons_succ, List.set_cons_zero, List.set_cons_succ, if_true, if_false, Bool.false_eq_true, ite_true, ite_false, up_same, reduceIte, decide_true, decide_false, true_and, and_true, eqv_int, eqv_bool, eqv_TI, eqv_LI, eqv_TT, eqv_LT, eqv_nilL, eqv_nilT, shaped_TI, shaped_LI, shaped_TT, shaped_LT, shaped_int, shaped_bool, shaped_nilL, shaped_nilT, dints_map2, dbools_map2, datas_map, mkT_map, mkT_0, mkT_1, mkT_2, mkT_3, List.length_map, List.length_cons, List.length_nil, List.length_append, List.map_cons, List.map_nil, wipeD, Bool.not_true, Bool.not_false, eq_self, not_true_eq_false, not_false_eq_true, kitB_tt, kitB_ll, kitB_dd, kitB_bb, kitB_ib, kitB_ii, kitB_ss, kitB_tl, kitB_lt, Function.comp, datas, Option.map_some, List.cons_append, List.nil_append, CPow, le_size4, Int.toNat_natCast, rngD0, I_eq, Bo_eq, BS.qSortB, in_IT, in_IL, in_TT, in_TL, qNotN, qIsN, qSortD, qListRg, qDispT, keyX_TI, qGet, qiItems, qLockE, qLockS, qPop, qMaxDf, qLPut, qDNew, qListItems, qListDK, qLc2, qMax1, qMin1, qAppend, qExtend, tints_TI, dv_TI, Option.bind_some, qRetN, atI_0, atI_1, atI_2, mk_appT, mk_snocI, idl, rep_I, Option.map_none, eqv_idl, shaped_idl, Bool.and_self, Bool.true_and, Bool.and_true]))
local macro_rules | `(tactic| walk_at "F") => `(tactic| (try simp only [qAsg, qRet, qDrop, qIfS, qTest, qAndT, qOrT, qNotT, qAndV, qOrV, qNotV, qIf, qOp, qUn, qChain, onB, qv, qc, qgN, qgT, qgCons, qgNil, qCons, qNil, qTup, qLst, qPar, qPar3, qAug, qCB, qCall, qLen, qTupleC, qListC, qMax2, qMin2, qIntC, qSum, qAny, qAll, qIsi, tyName, qAdd, qSub, qMul, qFdiv, qMod, qPow, qI2, qCmpI, qEq, qNe, qLt, qLe, qGt, qGe, qNeg, qIx, qDGet, qDIn, qDPut, qSl, qPart, qNoPart, qNext, qFor, qiRng1, qiRng2, qiZip, qiEnum, qLc, fz, newL, List.getElem?_cons_zero, List.getElem?_cons_succ, List.set_cons_zero, List.set_cons_succ, if_true, if_false, Bool.false_eq_true, ite_true, ite_false, up_same, reduceIte, decide_true, decide_false, true_and, and_true, eqv_int, eqv_bool, eqv_TI, eqv_LI, eqv_TT, eqv_LT, eqv_nilL, eqv_nilT, shaped_TI, shaped_LI, shaped_TT, shaped_LT, shaped_int, shaped_bool, shaped_nilL, shaped_nilT, dints_map2, dbools_map2, datas_map, mkT_map, mkT_0, mkT_1, mkT_2, mkT_3, List.length_map, List.length_cons, List.length_nil, List.length_append, List.map_cons, List.map_nil, wipeD, Bool.not_true, Bool.not_false, eq_self, not_true_eq_false, not_false_eq_true, kitB_tt, kitB_ll, kitB_dd, kitB_bb, kitB_ib, kitB_ii, kitB_ss, kitB_tl, kitB_lt, Function.comp, datas, Option.map_some, List.cons_append, List.nil_append, CPow, le_size4, Int.toNat_natCast, rngD0, I_eq, Bo_eq, BS.qSortB, in_IT, in_IL, in_TT, in_TL, qNotN, qIsN, qSortD, qListRg, qDispT, keyX_TI, qGet, qiItems, qLockE, qLockS, qPop, qMaxDf, qLPut, qDNew, qListItems, qListDK, qLc2, qMax1, qMin1, qAppend, qExtend, tints_TI, dv_TI, Option.bind_some, qRetN, atI_0, atI_1, atI_2, mk_appT, mk_snocI, idl, rep_I, Option.map_none, eqv_idl, shaped_idl, Bool.and_self, Bool.true_and, Bool.and_true]))
namespace UC
open PySem L2 DL RD CpComb
theorem comb_dv (f : List Int) (r : Nat) : (combL ((f.map PyData.int).map DV.d) r).map mkT = (combL f r).map fun c => DV.d (TI c) := by
  rw [List.map_map, combL_map, List.map_map]
  refine List.map_congr_left fun c _ => ?_
  show mkT (c.map (DV.d ∘ PyData.int)) = _
  rw [← List.map_map, mkT_map]
theorem len_combL : ∀ (f : List Int) (r : Nat), (combL f r).length ≤ 2 ^ f.length
  | f, 0 => by rw [combL_zero]; exact Nat.one_le_two_pow
  | [], r + 1 => Nat.zero_le _
  | x :: f, r + 1 => by
    rw [combL, List.length_append, List.length_map, List.length_cons, Nat.pow_succ]
    have := len_combL f r
    have := len_combL f (r + 1)
    omega
theorem rng_dv (v : Nat) : (List.range v).map (fun (j : Nat) => DV.d (.int (j : Int))) = ((rangeI v).map PyData.int).map DV.d := by
  rw [List.map_map, List.map_map]
  rfl
end UC
end
section
set_option linter.all false
set_option maxRecDepth 100000
set_option maxHeartbeats 1000000
open PySem L2 DL RD UC
local macro_rules | `(tactic| walk_at "E") => `(tactic| (try simp only [qAsg, qRet, qDrop, qIfS, qTest, qAndT, qOrT, qNotT, qAndV, qOrV, qNotV, qIf, qOp, qUn, qChain, onB, qv, qc, qgN, qgT, qgCons, qgNil, qCons, qNil, qTup, qLst, qPar, qPar3, qAug, qCB, qCall, qLen, qTupleC, qListC, qMax2, qMin2, qIntC, qSum, qAny, qAll, qIsi, tyName, qAdd, qSub, qMul, qFdiv, qMod, qPow, qI2, qCmpI, qEq, qNe, qLt, qLe, qGt, qGe, qNeg, qIx, qDGet, qDIn, qDPut, qSl, qPart, qNoPart, qNext, qFor, qiSeq, qiRng1, qiRng2, qiZip, qiEnum, qLc, seqSrc, lsrc, titems, litems, sitems, fz, newL, List.getElem?_cons_zero, List.getElem?_cons_succ, List.set_cons_zero, List.set_cons_succ, if_true, if_false, Bool.false_eq_true, ite_true, ite_false, up_same, reduceIte, decide_true, decide_false, true_and, and_true]))
local macro_rules | `(tactic| walk_at "D") => `(tactic| (try simp only [qAsg, qRet, qDrop, qIfS, qTest, qAndT, qOrT, qNotT, qAndV, qOrV, qNotV, qIf, qOp, qUn, qChain, onB, qv, qc, qgN, qgT, qgCons, qgNil, qCons, qNil, qTup, qLst, qPar, qPar3, qAug, qCB, qCall, qLen, qTupleC, qListC, qMax2, qMin2, qIntC, qSum, qAny, qAll, qIsi, tyName, qAdd, qSub, qMul, qFdiv, qMod, qPow, qI2, qCmpI, qEq, qNe, qLt, qLe, qGt, qGe, qNeg, qIx, qDGet, qDIn, qDPut, qSl, qPart, qNoPart, qNext, qFor, qiSeq, qiRng1, qiRng2, qiZip, qiEnum, qLc, seqSrc, lsrc, titems, litems, sitems, fz, newL, List.getElem?_cons_zero, List.getElem?_cons_succ, List.set_cons_zero, List.set_cons_succ, if_true, if_false, Bool.false_eq_true, ite_true, ite_false, up_same, reduceIte, decide_true, decide_false, true_and, and_true, eqv_int, eqv_bool, eqv_TI, eqv_LI, eqv_TT, eqv_LT, eqv_nilL, eqv_nilT, shaped_TI, shaped_LI, shaped_TT, shaped_LT, shaped_int, shaped_bool, shaped_nilL, shaped_nilT, dints_map2, dbools_map2, datas_map, mkT_map, mkT_0, mkT_1, mkT_2, mkT_3, List.length_map, List.length_cons, List.length_nil, List.length_append, List.map_cons, List.map_nil, wipeD, Bool.not_true, Bool.not_false, eq_self, not_true_eq_false, not_false_eq_true, kitB_tt, kitB_ll, kitB_dd, kitB_bb, kitB_ib, kitB_ii, kitB_ss, kitB_tl, kitB_lt, Function.comp, datas, Option.map_some, List.cons_append, List.nil_append, CPow, le_size4, Int.toNat_natCast, rngD0, I_eq, Bo_eq, BS.qSortB, in_IT, in_IL, in_TT, in_TL, qNotN, qIsN, qSortD, qListRg, qDispT, keyX_TI, qGet, qiItems, qLockE, qLockS, qPop, qMaxDf, qLPut, qDNew, qListItems, qListDK, qLc2, qMax1, qMin1, qAppend, qExtend, tints_TI, dv_TI, Option.bind_some, qRetN, atI_0, atI_1, atI_2, mk_appT, mk_snocI, idl, rep_I, Option.map_none, eqv_idl, shaped_idl, Bool.and_self, Bool.true_and, Bool.and_true]))
local macro_rules | `(tactic| walk_at "F") => `(tactic| (try simp only [qAsg, qRet, qDrop, qIfS, qTest, qAndT, qOrT, qNotT, qAndV, qOrV, qNotV, qIf, qOp, qUn, qChain, onB, qv, qc, qgN, qgT, qgCons, qgNil, qCons, qNil, qTup, qLst, qPar, qPar3, qAug, qCB, qCall, qLen, qTupleC, qListC, qMax2, qMin2, qIntC, qSum, qAny, qAll, qIsi, tyName, qAdd, qSub, qMul, qFdiv, qMod, qPow, qI2, qCmpI, qEq, qNe, qLt, qLe, qGt, qGe, qNeg, qIx, qDGet, qDIn, qDPut, qSl, qPart, qNoPart, qNext, qFor, qiRng1, qiRng2, qiZip, qiEnum, qLc, fz, newL, List.getElem?_cons_zero, List.getElem?_cons_succ, List.set_cons_zero, List.set_cons_succ, if_true, if_false, Bool.false_eq_true, ite_true, ite_false, up_same, reduceIte, decide_true, decide_false, true_and, and_true, eqv_int, eqv_bool, eqv_TI, eqv_LI, eqv_TT, eqv_LT, eqv_nilL, eqv_nilT, shaped_TI, shaped_LI, shaped_TT, shaped_LT, shaped_int, shaped_bool, shaped_nilL, shaped_nilT, dints_map2, dbools_map2, datas_map, mkT_map, mkT_0, mkT_1, mkT_2, mkT_3, List.length_map, List.length_cons, List.length_nil, List.length_append, List.map_cons, List.map_nil, wipeD, Bool.not_true, Bool.not_false, eq_self, not_true_eq_false, not_false_eq_true, kitB_tt, kitB_ll, kitB_dd, kitB_bb, kitB_ib, kitB_ii, kitB_ss, kitB_tl, kitB_lt, Function.comp, datas, Option.map_some, List.cons_append, List.nil_append, CPow, le_size4, Int.toNat_natCast, rngD0, I_eq, Bo_eq, BS.qSortB, in_IT, in_IL, in_TT, in_TL, qNotN, qIsN, qSortD, qListRg, qDispT, keyX_TI, qGet, qiItems, qLockE, qLockS, qPop, qMaxDf, qLPut, qDNew, qListItems, qListDK, qLc2, qMax1, qMin1, qAppend, qExtend, tints_TI, dv_TI, Option.bind_some, qRetN, atI_0, atI_1, atI_2, mk_appT, mk_snocI, idl, rep_I, Option.map_none, eqv_idl, shaped_idl, Bool.and_self, Bool.true_and, Bool.and_true]))
namespace UC
open PySem L2 DL RD CpComb
theorem TIs_xV (v : Nat) (b : List Int) : ([] : List DV) ++ (rangeI v).map (fun k => if k ∈ b then I 1 else I 0) = ((xV v b).map PyData.int).map DV.d := by
  unfold xV rangeI
  rw [List.nil_append, List.map_map, List.map_map, List.map_map]
  refine List.map_congr_left fun j _ => ?_
  show (if (j : Int) ∈ b then I 1 else I 0) = DV.d (PyData.int (if (j : Int) ∈ b then 1 else 0))
  split <;> rfl
def sp_product_of_vertices : SpD := fun xs st Q => ∃ (v : Nat) (b : List Int), xs = [I v, .d (TI b)] ∧ v ≤ 1000 ∧ Q (.d (TI (xV v b))) st
theorem len_product_of_vertices : ∀ xs st Q, sp_product_of_vertices xs st Q → xs.length = 2 := by rintro xs st Q ⟨v, b, rfl, _⟩; rfl
theorem sem_product_of_vertices : ∀ xs st Q, sp_product_of_vertices xs st Q → rd_product_of_vertices { nx := fun _ st' => Fg Q (.d .none) st', rt := Fg Q } (startD 3 xs) st := by
  rintro xs st Q ⟨v, b, rfl, hv, K⟩
  have e0 : startD 3 [I v, .d (TI b)] = [some (I v), some (.d (TI b)), none] := rfl
  rw [e0]
  unfold rd_product_of_vertices
  walk_at "D"
  refine ⟨by omega, by omega, by rw [List.length_range, sizeL]; omega, ?_⟩
  rw [show (List.range v).map (fun (j : Nat) => DV.d (.int (j : Int))) = (rangeI v).map fun k => I k by unfold rangeI; rw [List.map_map]; rfl]
  refine comp_mapT _ (fun k => if k ∈ b then I 1 else I 0) trivial _ _ ?_ ?_
  · intro y hy Q1 h
    walk_at "D"
    by_cases c : y ∈ b
    · simp only [c, decide_true, if_true] at h ⊢
      exact h
    · simp only [c, decide_false, Bool.false_eq_true, if_false] at h ⊢
      exact h
  · rw [TIs_xV]
    walk_at "D"
    exact fg_ret K
end UC
end
section
set_option linter.all false
set_option maxRecDepth 100000
set_option maxHeartbeats 1000000
namespace UC
open PySem L2 DL RD
def edg (p : Int × Int) : List Int := [p.1, p.2]
structure GrOk (n : Nat) (E : List (Int × Int)) : Prop where
  low : ∀ p ∈ E, 0 ≤ p.1 ∧ p.1 < p.2 ∧ p.2 < (n : Int)
  nd : E.Nodup
def covB (E : List (Int × Int)) (c : List Int) : Bool := E.all fun p => decide (p.1 ∈ c) || decide (p.2 ∈ c)
theorem cov_iff {E : List (Int × Int)} {c : List Int} : covB E c = true ↔ ∀ p ∈ E, p.1 ∈ c ∨ p.2 ∈ c := by simp [covB]
def covL (n : Nat) (E : List (Int × Int)) : List (List Int) := (subsL (rangeI n)).filter (covB E)
theorem mem_covL {n : Nat} {E : List (Int × Int)} {c : List Int} : c ∈ covL n E ↔ Asc c ∧ Low n c ∧ covB E c = true := by
  unfold covL
  rw [List.mem_filter, mem_subs, ← and_assoc]
  refine and_congr_left fun _ => ⟨fun h => ⟨(asc_rngV n).sublist h, fun x hx => mem_rngV.mp (h.subset hx)⟩, fun h => asc_sub h.1 (asc_rngV n) fun x hx => mem_rngV.mpr (h.2 x hx)⟩
def minC (L : List (List Int)) : List (List Int) := L.filter fun a => decide (L.filter (fun b => decide (b ≠ a) && insB b a) = [])
theorem mem_minC {L : List (List Int)} {a : List Int} : a ∈ minC L ↔ a ∈ L ∧ ∀ b ∈ L, insB b a = true → b = a := by
  unfold minC
  rw [List.mem_filter, decide_eq_true_eq, List.filter_eq_nil_iff]
  refine and_congr_right fun _ => ⟨fun h b hb hi => ?_, fun h b hb => ?_⟩
  · refine Classical.byContradiction fun hn => h b hb ?_
    rw [hi, decide_eq_true hn]
    rfl
  · rw [Bool.and_eq_true, decide_eq_true_eq]
    exact fun ⟨h1, h2⟩ => h1 (h b hb h2)
def mcL (n : Nat) (E : List (Int × Int)) : List (List Int) := minC (covL n E)
theorem mc_below {n : Nat} {E : List (Int × Int)} {c : List Int} (hc : c ∈ covL n E) : ∃ d ∈ mcL n E, insB d c = true := by
  have key : ∀ (k : Nat) (c : List Int), c ∈ covL n E → c.length ≤ k → ∃ d ∈ mcL n E, insB d c = true := by
    intro k
    induction k with
    | zero =>
      intro c hc h0
      refine ⟨c, mem_minC.mpr ⟨hc, fun b hb hi => ?_⟩, insB_refl c⟩
      refine Classical.byContradiction fun hn => ?_
      have := asc_len (mem_covL.mp hb).1 (mem_covL.mp hc).1 hi (Ne.symm hn)
      omega
    | succ k ih =>
      intro c hc hk
      by_cases hm : ∀ b ∈ covL n E, insB b c = true → b = c
      · exact ⟨c, mem_minC.mpr ⟨hc, hm⟩, insB_refl c⟩
      · obtain ⟨b, hb, hi, hn⟩ : ∃ b, b ∈ covL n E ∧ insB b c = true ∧ b ≠ c := Classical.byContradiction fun hno => hm fun b hb hi => Classical.byContradiction fun hn => hno ⟨b, hb, hi, hn⟩
        have := asc_len (mem_covL.mp hb).1 (mem_covL.mp hc).1 hi (Ne.symm hn)
        obtain ⟨d, hd, h2⟩ := ih b hb (by omega)
        exact ⟨d, hd, insB_tr h2 hi⟩
  exact key _ c hc (Nat.le_refl _)
theorem mc_cov {n : Nat} {E : List (Int × Int)} {c : List Int} (h : c ∈ mcL n E) : Asc c ∧ Low n c ∧ covB E c = true := mem_covL.mp (mem_minC.mp h).1
theorem mc_anti {n : Nat} {E : List (Int × Int)} {a b : List Int} (ha : a ∈ mcL n E) (hb : b ∈ mcL n E) (h : insB a b = true) : a = b := (mem_minC.mp hb).2 a (mem_minC.mp ha).1 h
theorem nodup_mc (n : Nat) (E : List (Int × Int)) : (mcL n E).Nodup := by
  have : (subsL (rangeI n)).Nodup := nodup_subs (nodup_rangeI n)
  exact (this.sublist List.filter_sublist).sublist List.filter_sublist
where
  nodup_subs {xs : List Int} (h : xs.Nodup) : (subsL xs).Nodup := by
    have key : ∀ (ys : List Int), ys.Nodup → (subsL ys.reverse).Nodup := by
      intro ys
      induction ys with
      | nil => exact fun _ => List.nodup_cons.mpr ⟨List.not_mem_nil, List.nodup_nil⟩
      | cons x ys ih =>
        intro h
        obtain ⟨h1, h2⟩ := List.nodup_cons.mp h
        rw [List.reverse_cons, subs_snoc, List.nodup_append]
        refine ⟨ih h2, nodup_map_of (ih h2) fun a _ b _ e => List.append_cancel_right e, fun a ha b hb e => ?_⟩
        obtain ⟨c, hc, rfl⟩ := List.mem_map.mp hb
        have := (mem_subs.mp ha).subset (show x ∈ a by rw [e]; exact List.mem_append_right _ (List.mem_singleton.mpr rfl))
        exact h1 (List.mem_reverse.mp this)
    have := key xs.reverse ((List.reverse_perm xs).nodup_iff.mpr h)
    rwa [List.reverse_reverse] at this
def egL (n : Nat) (E : List (Int × Int)) : List (List Int) := E.map fun p => xV n (edg p)
theorem asc_edg {n : Nat} {E : List (Int × Int)} (h : GrOk n E) {p : Int × Int} (hp : p ∈ E) : Asc (edg p) ∧ Low n (edg p) := by
  have := h.low p hp
  refine ⟨List.pairwise_cons.mpr ⟨fun x hx => ?_, List.pairwise_singleton _ _⟩, fun x hx => ?_⟩
  · rw [List.mem_singleton.mp hx]
    exact this.2.1
  · simp only [edg, List.mem_cons, List.not_mem_nil, or_false] at hx
    rcases hx with rfl | rfl <;> omega
theorem unit_egL {n : Nat} {E : List (Int × Int)} : ∀ g ∈ egL n E, Unit1 n g := fun g hg => by
  obtain ⟨p, _, rfl⟩ := List.mem_map.mp hg
  exact unit_xV _ _
theorem edg_inj {n : Nat} {E : List (Int × Int)} (h : GrOk n E) {p q : Int × Int} (hp : p ∈ E) (hq : q ∈ E) (hi : insB (edg p) (edg q) = true) : p = q := by
  have a := h.low p hp
  have b := h.low q hq
  have h1 := insB_iff.mp hi p.1 (by simp [edg])
  have h2 := insB_iff.mp hi p.2 (by simp [edg])
  simp only [edg, List.mem_cons, List.not_mem_nil, or_false] at h1 h2
  refine Prod.ext ?_ ?_ <;> omega
theorem nodup_egL {n : Nat} {E : List (Int × Int)} (h : GrOk n E) : (egL n E).Nodup := nodup_map_of h.nd fun p hp q hq e => by
  have a := asc_edg h hp
  have b := asc_edg h hq
  refine edg_inj h hp hq ?_
  rw [xV_inj a.1 a.2 b.1 b.2 e]
  exact insB_refl _
theorem eg_anti {n : Nat} {E : List (Int × Int)} (h : GrOk n E) : ∀ s ∈ egL n E, ∀ t ∈ egL n E, divB s t = true → s = t := by
  intro s hs t ht hd
  obtain ⟨p, hp, rfl⟩ := List.mem_map.mp hs
  obtain ⟨q, hq, rfl⟩ := List.mem_map.mp ht
  rw [edg_inj h hp hq ((div_xV (asc_edg h hp).2).mp hd)]
theorem min_egL {n : Nat} {E : List (Int × Int)} (h : GrOk n E) : minL (egL n E) = sortU (egL n E) := min_anti (eg_anti h)
theorem minmin_eg {n : Nat} {E : List (Int × Int)} (h : GrOk n E) : minL (sortU (egL n E)) = sortU (egL n E) := by
  rw [← min_egL h]
  exact min_idem fun s hs => (unit_egL s hs).1
theorem Comp.congr {n : Nat} {G G' L : List (List Int)} (h : Comp n G L) (e : ∀ x, x ∈ G' ↔ x ∈ G) : Comp n G' L :=
  ⟨h.nn, fun p hp g hg => h.up p hp g ((e g).mp hg), fun q hq hc => h.all q hq fun g hg => hc g ((e g).mpr hg), h.anti⟩
/-- where an exponent is 1 -/
def oneS (n : Nat) (q : List Int) : List Int := (rangeI n).filter fun k => decide (gd q k.toNat = 1)
theorem mem_oneS {n : Nat} {q : List Int} {x : Int} : x ∈ oneS n q ↔ (0 ≤ x ∧ x < (n : Int)) ∧ gd q x.toNat = 1 := by
  unfold oneS
  rw [List.mem_filter, mem_rngV, decide_eq_true_eq]
theorem asc_oneS (n : Nat) (q : List Int) : Asc (oneS n q) := (asc_rngV n).sublist List.filter_sublist
theorem low_oneS (n : Nat) (q : List Int) : Low n (oneS n q) := fun x hx => (mem_oneS.mp hx).1
theorem cov_oneS {n : Nat} {E : List (Int × Int)} {q : List Int} (hq : NN n q) (hc : ∀ g ∈ egL n E, holdsB q g = true) : oneS n q ∈ covL n E := by
  refine mem_covL.mpr ⟨asc_oneS n q, low_oneS n q, cov_iff.mpr fun p hp => ?_⟩
  obtain ⟨j, hj, h1, h2⟩ := (holds_iff hq.1 len_xV).mp (hc _ (List.mem_map.mpr ⟨p, hp, rfl⟩))
  have hje : (j : Int) ∈ edg p := (pos_xV hj).mp (by omega)
  rw [gd_xV hj, if_pos hje] at h2
  have hm : (j : Int) ∈ oneS n q := mem_oneS.mpr ⟨by omega, by rw [show ((j : Int)).toNat = j by omega]; omega⟩
  simp only [edg, List.mem_cons, List.not_mem_nil, or_false] at hje
  rcases hje with e | e
  · exact .inl (e ▸ hm)
  · exact .inr (e ▸ hm)
theorem comp_edge {n : Nat} {E : List (Int × Int)} (h : GrOk n E) : Comp n (egL n E) ((mcL n E).map (xV n)) := by
  constructor
  · intro p hp
    obtain ⟨f, _, rfl⟩ := List.mem_map.mp hp
    exact nn_xV _ _
  · intro p hp g hg
    obtain ⟨c, hc, rfl⟩ := List.mem_map.mp hp
    obtain ⟨e, he, rfl⟩ := List.mem_map.mp hg
    obtain ⟨h1, h2, h3⟩ := mc_cov hc
    refine (holds_xV h2).mpr ?_
    rcases cov_iff.mp h3 e he with z | z
    · exact ⟨_, z, by simp [edg]⟩
    · exact ⟨_, z, by simp [edg]⟩
  · intro q hq hc
    obtain ⟨d, hd, hi⟩ := mc_below (cov_oneS hq hc)
    refine ⟨_, List.mem_map.mpr ⟨d, hd, rfl⟩, (around_iff hq.1 len_xV).mpr fun j hj hp => ?_⟩
    have := (mem_oneS.mp (insB_iff.mp hi _ ((pos_xV hj).mp hp))).2
    rw [show ((j : Int)).toNat = j by omega] at this
    rw [this]
    omega
  · intro p hp q hq h2
    obtain ⟨c, hc, rfl⟩ := List.mem_map.mp hp
    obtain ⟨d, hd, rfl⟩ := List.mem_map.mp hq
    rw [mc_anti hd hc ((around_xV (mc_cov hd).2.1).mp h2)]
section
variable {n : Nat} {E : List (Int × Int)} (h : GrOk n E)
def egG (n : Nat) (E : List (Int × Int)) : List (List Int) := sortU (egL n E)
theorem unit_egG : ∀ g ∈ egG n E, Unit1 n g := fun g hg => unit_egL g (mem_sortU.mp hg)
theorem nns_egG : NNs n (egG n E) := fun g hg => (unit_egG g hg).nn
include h
theorem comp_egG : Comp n (egG n E) ((mcL n E).map (xV n)) := (comp_edge h).congr fun x => mem_sortU
theorem compF_eg : compF n (egG n E) = sortU ((mcL n E).map (xV n)) := Comp.sort nns_egG (comp_egG h)
theorem mem_compF_eg {p : List Int} : p ∈ compF n (egG n E) ↔ ∃ c ∈ mcL n E, xV n c = p := by
  rw [compF_eg h, mem_sortU, List.mem_map]
def dueL (n : Nat) (E : List (Int × Int)) : List (List Int) := sortU (mcL n E)
omit h in
theorem mem_due {c : List Int} : c ∈ dueL n E ↔ c ∈ mcL n E := mem_sortU
theorem primes_eg : primesF n (egG n E) = dueL n E := ris_eq (ris_sortU _) (ris_sortU _) fun x => by
  rw [mem_primesF, mem_due]
  constructor
  · rintro ⟨p, hp, rfl⟩
    obtain ⟨c, hc, rfl⟩ := (mem_compF_eg h).mp hp
    rw [supp_xV (mc_cov hc).1 (mc_cov hc).2.1]
    exact hc
  · intro hx
    exact ⟨_, (mem_compF_eg h).mpr ⟨x, hx, rfl⟩, supp_xV (mc_cov hx).1 (mc_cov hx).2.1⟩
omit h in
theorem minP_due : minP (dueL n E) = dueL n E := by
  refine ris_eq (List.Pairwise.sublist List.filter_sublist (ris_sortU _)) (ris_sortU _) fun x => ?_
  rw [mem_minP]
  refine ⟨fun z => z.1, fun hx => ⟨hx, fun o ho hs => mc_anti (mem_due.mp ho) (mem_due.mp hx) ?_⟩⟩
  unfold subS at hs
  exact hs
def cvG (n : Nat) (E : List (Int × Int)) : List (List Int) := sortU ((mcL n E).map (xV n))
omit h in
theorem unit_cvG : ∀ g ∈ cvG n E, Unit1 n g := fun g hg => by
  obtain ⟨c, _, rfl⟩ := List.mem_map.mp (mem_sortU.mp hg)
  exact unit_xV _ _
theorem dual_eg : dualL n (egG n E) (List.replicate n 1) = cvG n E := by
  rw [dual_sort (nn_ones n) fun g hg => bel_unit (unit_egG g hg)]
  refine sortU_eq (ris_sortU _) fun x => ?_
  unfold cvG
  rw [List.mem_map, mem_sortU, List.mem_map]
  constructor
  · rintro ⟨p, hp, rfl⟩
    obtain ⟨c, hc, rfl⟩ := (mem_compF_eg h).mp hp
    exact ⟨c, hc, turn_xV.symm⟩
  · rintro ⟨c, hc, rfl⟩
    exact ⟨_, (mem_compF_eg h).mpr ⟨c, hc, rfl⟩, turn_xV⟩
theorem comp_cv : compF n (cvG n E) = egG n E := by
  rw [← dual_eg h, comp_of_dual (nn_ones n) (fun g hg => bel_unit (unit_egG g hg)) (minmin_eg h)]
  refine sortU_eq (ris_sortU _) fun x => ?_
  rw [List.mem_map]
  have tr : ∀ g ∈ egG n E, turnL g (List.replicate n 1) = g := fun g hg => by
    rw [← xV_supp (unit_egG g hg), turn_xV]
  constructor
  · rintro ⟨g, hg, rfl⟩
    rw [tr g hg]
    exact hg
  · exact fun hx => ⟨x, hx, tr x hx⟩
omit h in
theorem cv_made {L : List (List Int)} (e : ∀ c, c ∈ L ↔ c ∈ mcL n E) : minL (L.map (xV n)) = cvG n E := by
  have e2 : ∀ x, x ∈ L.map (xV n) ↔ x ∈ (mcL n E).map (xV n) := fun x => by
    rw [List.mem_map, List.mem_map]
    exact ⟨fun ⟨b, hb, z⟩ => ⟨b, (e b).mp hb, z⟩, fun ⟨b, hb, z⟩ => ⟨b, (e b).mpr hb, z⟩⟩
  rw [min_anti fun s hs t ht hd => ?_]
  · exact sortU_eq (ris_sortU _) fun x => by rw [e2 x]; exact mem_sortU.symm
  · obtain ⟨c, hc, rfl⟩ := List.mem_map.mp hs
    obtain ⟨d, hd2, rfl⟩ := List.mem_map.mp ht
    have c1 := (e c).mp hc
    rw [mc_anti c1 ((e d).mp hd2) ((div_xV (mc_cov c1).2.1).mp hd)]
theorem full_cov : rangeI n ∈ covL n E := mem_covL.mpr ⟨asc_rngV n, fun x hx => mem_rngV.mp hx, cov_iff.mpr fun p hp => .inl (mem_rngV.mpr (by
  have := h.low p hp
  omega))⟩
theorem due_ne : dueL n E ≠ [] := fun e => by
  obtain ⟨d, hd, _⟩ := mc_below (full_cov h)
  have := mem_due.mpr hd
  rw [e] at this
  cases this
omit h in
theorem pos_len {c : List Int} (h1 : Asc c) (h2 : Low n c) : posL (xV n c) = c.length := by
  rw [← supp_len, supp_xV h1 h2]
theorem dim_eg {m : Nat} (hm : MinCov n (egG n E) m) : (∃ c ∈ mcL n E, c.length = m) ∧ ∀ c ∈ covL n E, m ≤ c.length := by
  have all : ∀ c ∈ covL n E, m ≤ c.length := fun c hc => by
    obtain ⟨h1, h2, h3⟩ := mem_covL.mp hc
    rw [← pos_len h1 h2]
    refine hm.le _ (unit_xV n c) fun g hg => ?_
    obtain ⟨e, he, rfl⟩ := List.mem_map.mp (mem_sortU.mp hg)
    refine (holds_xV h2).mpr ?_
    rcases cov_iff.mp h3 e he with z | z
    · exact ⟨_, z, by simp [edg]⟩
    · exact ⟨_, z, by simp [edg]⟩
  refine ⟨?_, all⟩
  obtain ⟨q, hq, hc, e⟩ := hm.ex
  obtain ⟨d, hd, hi⟩ := mc_below (cov_oneS hq.nn fun g hg => hc g (mem_sortU.mpr hg))
  have h1 := mc_cov hd
  have h2 := pos_le len_xV hq.1 fun j hj z => by
    have := (mem_oneS.mp (insB_iff.mp hi _ ((pos_xV hj).mp z))).2
    rw [show ((j : Int)).toNat = j by omega] at this
    omega
  rw [pos_len h1.1 h1.2.1] at h2
  have := all d (mem_minC.mp hd).1
  exact ⟨d, hd, by omega⟩
end
/-- no vertex of a cover may be left out -/
theorem least_iff {n : Nat} {E : List (Int × Int)} (h : GrOk n E) {c : List Int} (hc : c ∈ covL n E) : c ∈ mcL n E ↔ ∀ v ∈ c, ∃ p ∈ E, (p.1 = v ∧ p.2 ∉ c) ∨ (p.2 = v ∧ p.1 ∉ c) := by
  obtain ⟨c1, c2, c3⟩ := mem_covL.mp hc
  constructor
  · intro hm v hv
    refine Classical.byContradiction fun hno => ?_
    have hd : dif c [v] ∈ covL n E := mem_covL.mpr ⟨asc_dif c1, fun x hx => c2 x (mem_dif.mp hx).1, cov_iff.mpr fun p hp => ?_⟩
    · have := (mem_minC.mp hm).2 _ hd (insB_iff.mpr fun x hx => (mem_dif.mp hx).1)
      rw [← this] at hv
      exact (mem_dif.mp hv).2 List.mem_cons_self
    · have hne := h.low p hp
      have key : ∀ x : Int, x ∈ c → x ≠ v → x ∈ dif c [v] := fun x hx hxv => mem_dif.mpr ⟨hx, fun z => hxv (List.mem_singleton.mp z)⟩
      by_cases e1 : p.1 = v
      · refine .inr (key _ (Classical.byContradiction fun z => hno ⟨p, hp, .inl ⟨e1, z⟩⟩) (by omega))
      · by_cases e2 : p.2 = v
        · exact .inl (key _ (Classical.byContradiction fun z => hno ⟨p, hp, .inr ⟨e2, z⟩⟩) e1)
        · exact (cov_iff.mp c3 p hp).imp (fun z => key _ z e1) fun z => key _ z e2
  · intro hall
    refine mem_minC.mpr ⟨hc, fun b hb hi => ?_⟩
    obtain ⟨b1, b2, b3⟩ := mem_covL.mp hb
    refine asc_ext b1 c1 fun x => ⟨insB_iff.mp hi x, fun hx => ?_⟩
    obtain ⟨p, hp, z⟩ := hall x hx
    rcases z with ⟨e, hn⟩ | ⟨e, hn⟩
    · rcases cov_iff.mp b3 p hp with y | y
      · exact e ▸ y
      · exact absurd (insB_iff.mp hi _ y) hn
    · rcases cov_iff.mp b3 p hp with y | y
      · exact absurd (insB_iff.mp hi _ y) hn
      · exact e ▸ y
end UC
end
section
set_option linter.all false
set_option maxRecDepth 100000
set_option maxHeartbeats 1000000
open PySem L2 DL RD UC
local macro_rules | `(tactic| walk_at "E") => `(tactic| (try simp only [qAsg, qRet, qDrop, qIfS, qTest, qAndT, qOrT, qNotT, qAndV, qOrV, qNotV, qIf, qOp, qUn, qChain, onB, qv, qc, qgN, qgT, qgCons, qgNil, qCons, qNil, qTup, qLst, qPar, qPar3, qAug, qCB, qCall, qLen, qTupleC, qListC, qMax2, qMin2, qIntC, qSum, qAny, qAll, qIsi, tyName, qAdd, qSub, qMul, qFdiv, qMod, qPow, qI2, qCmpI, qEq, qNe, qLt, qLe, qGt, qGe, qNeg, qIx, qDGet, qDIn, qDPut, qSl, qPart, qNoPart, qNext, qFor, qiSeq, qiRng1, qiRng2, qiZip, qiEnum, qLc, seqSrc, lsrc, titems, litems, sitems, fz, newL, List.getElem?_cons_zero, List.getElem?_cons_succ, List.set_cons_zero, List.set_cons_succ, if_true, if_false, Bool.false_eq_true, ite_true, ite_false, up_same, reduceIte, decide_true, decide_false, true_and, and_true]))
local macro_rules | `(tactic| walk_at "D") => `(tactic| (try simp only [qAsg, qRet, qDrop, qIfS, qTest, qAndT, qOrT, qNotT, qAndV, qOrV, qNotV, qIf, qOp, qUn, qChain, onB, qv, qc, qgN, qgT, qgCons, qgNil, qCons, qNil, qTup, qLst, qPar, qPar3, qAug, qCB, qCall, qLen, qTupleC, qListC, qMax2, qMin2, qIntC, qSum, qAny, qAll, qIsi, tyName, qAdd, qSub, qMul, qFdiv, qMod, qPow, qI2, qCmpI, qEq, qNe, qLt, qLe, qGt, qGe, qNeg, qIx, qDGet, qDIn, qDPut, qSl, qPart, qNoPart, qNext, qFor, qiSeq, qiRng1, qiRng2, qiZip, qiEnum, qLc, seqSrc, lsrc, titems, litems, sitems, fz, newL, List.getElem?_cons_zero, List.getElem?_cons_succ, List.set_cons_zero, List.set_cons_succ, if_true, if_false, Bool.false_eq_true, ite_true, ite_false, up_same, reduceIte, decide_true, decide_false, true_and, and_true, eqv_int, eqv_bool, eqv_TI, eqv_LI, eqv_TT, eqv_LT, eqv_nilL, eqv_nilT, shaped_TI, shaped_LI, shaped_TT, shaped_LT, shaped_int, shaped_bool, shaped_nilL, shaped_nilT, dints_map2, dbools_map2, datas_map, mkT_map, mkT_0, mkT_1, mkT_2, mkT_3, List.length_map, List.length_cons, List.length_nil, List.length_append, List.map_cons, List.map_nil, wipeD, Bool.not_true, Bool.not_false, eq_self, not_true_eq_false, not_false_eq_true, kitB_tt, kitB_ll, kitB_dd, kitB_bb, kitB_ib, kitB_ii, kitB_ss, kitB_tl, kitB_lt, Function.comp, datas, Option.map_some, List.cons_append, List.nil_append, CPow, le_size4, Int.toNat_natCast, rngD0, I_eq, Bo_eq, BS.qSortB, in_IT, in_IL, in_TT, in_TL, qNotN, qIsN, qSortD, qListRg, qDispT, keyX_TI, qGet, qiItems, qLockE, qLockS, qPop, qMaxDf, qLc2, qMax1, qMin1, qAppend, qExtend, tints_TI, dv_TI, Option.bind_some, qRetN, atI_0, atI_1, atI_2, mk_appT, mk_snocI, idl, rep_I, Option.map_none, eqv_idl, shaped_idl, Bool.and_self, Bool.true_and, Bool.and_true]))
local macro_rules | `(tactic| walk_at "F") => `(tactic| (try simp only [qAsg, qRet, qDrop, qIfS, qTest, qAndT, qOrT, qNotT, qAndV, qOrV, qNotV, qIf, qOp, qUn, qChain, onB, qv, qc, qgN, qgT, qgCons, qgNil, qCons, qNil, qTup, qLst, qPar, qPar3, qAug, qCB, qCall, qLen, qTupleC, qListC, qMax2, qMin2, qIntC, qSum, qAny, qAll, qIsi, tyName, qAdd, qSub, qMul, qFdiv, qMod, qPow, qI2, qCmpI, qEq, qNe, qLt, qLe, qGt, qGe, qNeg, qIx, qDGet, qDIn, qDPut, qSl, qPart, qNoPart, qNext, qFor, qiRng1, qiRng2, qiZip, qiEnum, qLc, fz, newL, List.getElem?_cons_zero, List.getElem?_cons_succ, List.set_cons_zero, List.set_cons_succ, if_true, if_false, Bool.false_eq_true, ite_true, ite_false, up_same, reduceIte, decide_true, decide_false, true_and, and_true, eqv_int, eqv_bool, eqv_TI, eqv_LI, eqv_TT, eqv_LT, eqv_nilL, eqv_nilT, shaped_TI, shaped_LI, shaped_TT, shaped_LT, shaped_int, shaped_bool, shaped_nilL, shaped_nilT, dints_map2, dbools_map2, datas_map, mkT_map, mkT_0, mkT_1, mkT_2, mkT_3, List.length_map, List.length_cons, List.length_nil, List.length_append, List.map_cons, List.map_nil, wipeD, Bool.not_true, Bool.not_false, eq_self, not_true_eq_false, not_false_eq_true, kitB_tt, kitB_ll, kitB_dd, kitB_bb, kitB_ib, kitB_ii, kitB_ss, kitB_tl, kitB_lt, Function.comp, datas, Option.map_some, List.cons_append, List.nil_append, CPow, le_size4, Int.toNat_natCast, rngD0, I_eq, Bo_eq, BS.qSortB, in_IT, in_IL, in_TT, in_TL, qNotN, qIsN, qSortD, qListRg, qDispT, keyX_TI, qGet, qiItems, qLockE, qLockS, qPop, qMaxDf, qLc2, qMax1, qMin1, qAppend, qExtend, tints_TI, dv_TI, Option.bind_some, qRetN, atI_0, atI_1, atI_2, mk_appT, mk_snocI, idl, rep_I, Option.map_none, eqv_idl, shaped_idl, Bool.and_self, Bool.true_and, Bool.and_true]))
namespace UC
open PySem L2 DL RD
def stepM (L : List (List Int)) (acc : List (List Int)) (p : List Int) : List (List Int) := if (L.any fun o => decide (o ≠ p) && subS p o) = true then acc else acc ++ [p]
theorem minP_fold (L : List (List Int)) : L.foldl (stepM L) [] = minP L := by
  have key : ∀ (M acc : List (List Int)), M.foldl (stepM L) acc = acc ++ M.filter fun p => decide (L.filter (fun o => decide (o ≠ p) && subS p o) = []) := by
    intro M
    induction M with
    | nil => intro acc; simp
    | cons p M ih =>
      intro acc
      have e : decide (L.filter (fun o => decide (o ≠ p) && subS p o) = []) = !(L.any fun o => decide (o ≠ p) && subS p o) := by
        rw [Bool.eq_iff_iff, decide_eq_true_eq, List.filter_eq_nil_iff, Bool.not_eq_true', List.any_eq_false]
      rw [List.foldl_cons, ih, List.filter_cons, e]
      unfold stepM
      cases (L.any fun o => decide (o ≠ p) && subS p o) with
      | true => simp
      | false => simp
  have := key L []
  rw [List.nil_append] at this
  exact this
def sp_minimal_primes : SpD := fun xs st Q => ∃ (G : List (List Int)) (n w : Nat), xs = [.d (idl n G)] ∧ OkC n w G ∧ n ≤ 8 ∧ G.length ≤ 10 ∧ Q (.d (TT (minP (primesF n G)))) st
theorem len_minimal_primes : ∀ xs st Q, sp_minimal_primes xs st Q → xs.length = 1 := by rintro xs st Q ⟨G, n, w, rfl, _⟩; rfl
theorem sem_minimal_primes : ∀ xs st Q, sp_minimal_primes xs st Q → rd_minimal_primes sp_primes { nx := fun _ st' => Fg Q (.d .none) st', rt := Fg Q } (startD 6 xs) st := by
  rintro xs st Q ⟨G, n, w, rfl, ok, h8, h10, K⟩
  have e0 : startD 6 [.d (idl n G)] = [some (.d (idl n G)), none, none, none, none, none] := rfl
  rw [e0]
  unfold rd_minimal_primes
  have cC := comp_len_ok ok
  have M := mon_compF ok.2.2.2
  have hPl : (primesF n G).length < 4000 := Nat.lt_of_le_of_lt (sortU_len _) (by rw [List.length_map]; exact cC)
  have hel : ∀ s ∈ primesF n G, s.length ≤ 1000 := fun s hs => by
    obtain ⟨p, hp, rfl⟩ := mem_primesF.mp hs
    rw [supp_len]
    refine Nat.le_trans (List.length_filter_le _ _) ?_
    rw [(M p hp).1]
    omega
  refine seq fun N hN => ?_
  walk_at "D"
  refine ⟨G, n, w, rfl, ok, h8, h10, hN _ _ ?_⟩; clear hN N
  rw [show primesL n G = primesF n G from rfl]
  generalize primesF n G = P at hPl hel K
  refine seq fun N hN => ?_
  walk_at "D"
  refine ⟨by decide, fun q hq => hN _ _ ?_⟩; clear hN N
  refine seq fun N hN => ?_
  walk_at "D"
  rw [List.map_map]
  refine for_byT _ (fun i ε s => (∃ y3, ε = [some (.d (idl n G)), some (.d (TT P)), some (.r q), y3, none, none]) ∧ s q = some (.lst ((((P.take i).foldl (stepM P) []).map TI).map .d)) ∧ ∀ b, b ≠ q → s b = st b) ⟨⟨_, rfl⟩, up_same, fun b hb => up_ne hb⟩ (fun _ _ _ _ => trivial) ?_ ?_
  · rintro i p ε s hp ⟨⟨y3, rfl⟩, hs, fr⟩ L hL
    have hi : i < P.length := (List.getElem?_eq_some_iff.mp hp).1
    have hnx : (P.take (i + 1)).foldl (stepM P) [] = stepM P ((P.take i).foldl (stepM P) []) p := by
      rw [List.take_succ, hp, List.foldl_append]
      rfl
    have hlen : ((P.take i).foldl (stepM P) []).length ≤ i := by
      have : ∀ (l acc : List (List Int)), (l.foldl (stepM P) acc).length ≤ acc.length + l.length := by
        intro l
        induction l with
        | nil => exact fun acc => Nat.le_refl _
        | cons m l ih =>
          intro acc
          refine Nat.le_trans (ih _) ?_
          unfold stepM
          split
          · simp <;> omega
          · simp <;> omega
      refine Nat.le_trans (this _ []) ?_
      simp only [List.length_nil, List.length_take]
      omega
    generalize (P.take i).foldl (stepM P) [] = A at hs hnx hlen
    walk_at "D"
    refine ⟨by rw [sizeL]; omega, ?_⟩
    rw [List.map_map]
    refine comp_mapT _ (fun o => Bo (decide (o ≠ p) && subS p o)) trivial _ _ ?_ ?_
    · intro o ho Q1 h
      walk_at "D"
      by_cases e : o = p
      · simp only [e, decide_true, ne_eq, not_true_eq_false, decide_false, Bool.false_and] at h ⊢
        walk_at "D"
        exact h
      · simp only [e, decide_false, ne_eq, not_false_eq_true, decide_true, Bool.true_and, Bool.not_false] at h ⊢
        walk_at "D"
        refine ⟨by have := hel o ho; rw [sizeL]; omega, ?_⟩
        rw [List.map_map]
        refine comp_mapT _ (fun k => Bo (decide (k ∈ p))) trivial _ _ ?_ ?_
        · intro k hk Q3 h3
          walk_at "D"
          exact h3
        · have e1 : [] ++ o.map (fun k => Bo (decide (k ∈ p))) = ((o.map fun k => decide (k ∈ p)).map PyData.bool).map DV.d := by
            rw [List.nil_append, List.map_map, List.map_map]
            rfl
          rw [e1]
          walk_at "D"
          rw [show (o.map fun k => decide (k ∈ p)).all id = subS p o by rw [List.all_map]; rfl]
          exact h
    · have e1 : [] ++ P.map (fun o => Bo (decide (o ≠ p) && subS p o)) = ((P.map fun o => decide (o ≠ p) && subS p o).map PyData.bool).map DV.d := by
        rw [List.nil_append, List.map_map, List.map_map]
        rfl
      rw [e1]
      walk_at "D"
      have e2 : (P.map fun o => decide (o ≠ p) && subS p o).any id = P.any fun o => decide (o ≠ p) && subS p o := by
        rw [List.any_map]
        rfl
      rw [e2]
      have hst : stepM P A p = if (P.any fun o => decide (o ≠ p) && subS p o) = true then A else A ++ [p] := rfl
      cases e : P.any fun o => decide (o ≠ p) && subS p o with
      | true =>
        rw [e, if_pos rfl] at hst
        rw [hst] at hnx
        walk_at "D"
        exact hL _ _ ⟨⟨_, rfl⟩, by rw [hnx]; exact hs, fr⟩
      | false =>
        rw [e, if_neg Bool.false_ne_true] at hst
        rw [hst] at hnx
        walk_at "D"
        refine ⟨⟨_, hs⟩, _, hs, by simp only [List.length_map, sizeL]; omega, hL _ _ ⟨⟨_, rfl⟩, ?_, fun b hb => by rw [up_ne hb]; exact fr b hb⟩⟩
        rw [up_same, hnx]
        simp
  · rintro ε s ⟨⟨y3, rfl⟩, hs, fr⟩
    refine hN _ _ ?_
    rw [List.take_length, minP_fold] at hs
    walk_at "D"
    simp only [hs]
    walk_at "D"
    exact fg_le (le_up hq fr) K
end UC
end
section
set_option linter.all false
set_option maxRecDepth 100000
namespace RD
open PySem L2 DL
/-- _law_graph(m) slots: 0=m 1=n 2=edges 3=a 4=b -/
def rd_law_graph (sp_law_draw : SpD) : TDs :=
  (qSeq (qAsg (qOp (qAdd false) (qc (.d (.int 2))) (qCall sp_law_draw (qCons (qv 0) (qCons (qc (.d (.int 5))) qNil)))) (qgN 1))
  (qSeq (qAsg (qLst true qNil) (qgN 2))
  (qSeq (qFor (qiRng1 (qCons (qv 1) qNil)) (qgN 3) (qFor (qiRng2 (qCons (qOp (qAdd false) (qv 3) (qc (.d (.int 1)))) (qCons (qv 1) qNil))) (qgN 4) (qIfS (qAndT (qTest (qOp qGt (qCall sp_law_draw (qCons (qv 0) (qCons (qc (.d (.int 3))) qNil))) (qc (.d (.int 0))))) (qTest (qOp qLt (qCB qLen (qCons (qv 2) qNil)) (qc (.d (.int 10)))))) (qDrop (qAppend (qv 2) (qTup (qCons (qv 3) (qCons (qv 4) qNil))))) qNext)))
  (qRet (qTup (qCons (qv 1) (qCons (qIf (qTest (qOp qGt (qCall sp_law_draw (qCons (qv 0) (qCons (qc (.d (.int 12))) qNil))) (qc (.d (.int 0))))) (qCB qTupleC (qCons (qv 2) qNil)) (qTup qNil)) qNil)))))))
/-- _law_covers(n, edges) slots: 0=n 1=edges 2=some 3=found 4=lot 5=other 6=a 7=b 8=x -/
def rd_law_covers (sp_law_subsets : SpD) : TDs :=
  (qSeq (qAsg (qLc false (qiSeq (qCall sp_law_subsets (qCons (qListRg false (qv 0)) qNil))) (qgN 4) (qTest (qOp qEq (qLc false (qiSeq (qv 1)) (qgT 2 (qgCons (qgN 6) (qgCons (qgN 7) qgNil))) (qAndT (qTest (qOp (qIn true) (qv 6) (qv 4))) (qTest (qOp (qIn true) (qv 7) (qv 4)))) (qc (.d (.int 1))) [6, 7]) (qLst false qNil))) (qv 4) [4]) (qgN 2))
  (qSeq (qAsg (qLst true qNil) (qgN 3))
  (qSeq (qFor (qiSeq (qv 2)) (qgN 4) (qIfS (qTest (qOp qEq (qLc false (qiSeq (qv 2)) (qgN 5) (qAndT (qTest (qOp qNe (qv 5) (qv 4))) (qTest (qOp qEq (qLc false (qiSeq (qv 5)) (qgN 8) (qTest (qOp (qIn true) (qv 8) (qv 4))) (qv 8) [8]) (qLst false qNil)))) (qv 5) [5]) (qLst false qNil))) (qDrop (qAppend (qv 3) (qv 4))) qNext))
  (qRet (qCB qTupleC (qCons (qSortD false (qv 3)) qNil))))))
/-- law(script) slots: 0=script 1=k 2=m 3=graph 4=n 5=edges 6=ideal 7=ones 8=due 9=parts 10=edge 11=lot 12=x -/
def rd_law (sp_law_begun : SpD) (sp_law_graph : SpD) (sp_edge_ideal : SpD) (sp_law_covers : SpD) (sp_primes : SpD) (sp_minimal_primes : SpD) (sp_cover_ideal : SpD) (sp_dual_of : SpD) (sp_dimension : SpD) (sp_least_cover : SpD) (sp_components : SpD) : TDs :=
  (qSeq (qFor (qiRng1 (qCons (qCB qMax2 (qCons (qc (.d (.int 2))) (qCons (qCB qMin2 (qCons (qCB qLen (qCons (qv 0) qNil)) (qCons (qc (.d (.int 4))) qNil))) qNil))) qNil)) (qgN 1) (qSeq (qAsg (qCall sp_law_begun (qCons (qv 0) (qCons (qv 1) qNil))) (qgN 2))
      (qSeq (qAsg (qCall sp_law_graph (qCons (qv 2) qNil)) (qgN 3))
      (qSeq (qAsg (qv 3) (qgT 2 (qgCons (qgN 4) (qgCons (qgN 5) qgNil))))
      (qSeq (qPar 6 7 (qCons (qCall sp_edge_ideal (qCons (qv 3) qNil)) (qCons (qOp (qMul false) (qTup (qCons (qc (.d (.int 1))) qNil)) (qv 4)) qNil)))
      (qSeq (qAsg (qCall sp_law_covers (qCons (qv 4) (qCons (qv 5) qNil))) (qgN 8))
      (qSeq (qIfS (qOrT (qTest (qOp qNe (qCall sp_primes (qCons (qv 6) qNil)) (qv 8))) (qTest (qOp qNe (qCall sp_minimal_primes (qCons (qv 6) qNil)) (qv 8)))) (qRet (qc (.d (.bool false)))) qNext)
      (qSeq (qIfS (qTest (qOp qNe (qCall sp_cover_ideal (qCons (qv 3) qNil)) (qCall sp_dual_of (qCons (qv 6) (qCons (qv 7) qNil))))) (qRet (qc (.d (.bool false)))) qNext)
      (qSeq (qIfS (qTest (qOp qNe (qOp qIx (qCall sp_cover_ideal (qCons (qv 3) qNil)) (qc (.d (.int 1)))) (qCB qTupleC (qCons (qSortD false (qLc false (qiSeq (qv 8)) (qgN 11) qYes (qCB qTupleC (qCons (qLc false (qiRng1 (qCons (qv 4) qNil)) (qgN 12) qYes (qIf (qTest (qOp (qIn false) (qv 12) (qv 11))) (qc (.d (.int 1))) (qc (.d (.int 0)))) [12]) qNil)) [11])) qNil)))) (qRet (qc (.d (.bool false)))) qNext)
      (qSeq (qIfS (qOrT (qTest (qOp qNe (qCall sp_dimension (qCons (qv 6) qNil)) (qOp qSub (qv 4) (qCB qLen (qCons (qCall sp_least_cover (qCons (qv 3) qNil)) qNil))))) (qTest (qOp qNe (qCB qLen (qCons (qCall sp_least_cover (qCons (qv 3) qNil)) qNil)) (qCB qMin1 (qCons (qLc false (qiSeq (qv 8)) (qgN 11) qYes (qCB qLen (qCons (qv 11) qNil)) [11]) qNil))))) (qRet (qc (.d (.bool false)))) qNext)
      (qIfS (qAndT (qTest (qOp qNe (qv 5) (qTup qNil))) (qTest (qOp qLe (qCB qLen (qCons (qv 8) qNil)) (qc (.d (.int 10)))))) (qSeq (qAsg (qLc false (qiSeq (qv 5)) (qgN 10) qYes (qCB qTupleC (qCons (qLc false (qiRng1 (qCons (qv 4) qNil)) (qgN 12) qYes (qIf (qTest (qOp (qIn false) (qv 12) (qv 10))) (qc (.d (.int 1))) (qc (.d (.int 0)))) [12]) qNil)) [10]) (qgN 9))
          (qIfS (qTest (qOp qNe (qCall sp_components (qCons (qCall sp_cover_ideal (qCons (qv 3) qNil)) qNil)) (qCB qTupleC (qCons (qSortD false (qv 9)) qNil)))) (qRet (qc (.d (.bool false)))) qNext)) qNext)))))))))))
  (qRet (qc (.d (.bool true)))))
end RD
end
section
set_option linter.all false
set_option maxRecDepth 100000
set_option maxHeartbeats 1000000
open PySem L2 DL RD UC
local macro_rules | `(tactic| walk_at "E") => `(tactic| (try simp only [qAsg, qRet, qDrop, qIfS, qTest, qAndT, qOrT, qNotT, qAndV, qOrV, qNotV, qIf, qOp, qUn, qChain, onB, qv, qc, qgN, qgT, qgCons, qgNil, qCons, qNil, qTup, qLst, qPar, qPar3, qAug, qCB, qCall, qLen, qTupleC, qListC, qMax2, qMin2, qIntC, qSum, qAny, qAll, qIsi, tyName, qAdd, qSub, qMul, qFdiv, qMod, qPow, qI2, qCmpI, qEq, qNe, qLt, qLe, qGt, qGe, qNeg, qIx, qDGet, qDIn, qDPut, qSl, qPart, qNoPart, qNext, qFor, qiSeq, qiRng1, qiRng2, qiZip, qiEnum, qLc, seqSrc, lsrc, titems, litems, sitems, fz, newL, List.getElem?_cons_zero, List.getElem?_cons_succ, List.set_cons_zero, List.set_cons_succ, if_true, if_false, Bool.false_eq_true, ite_true, ite_false, up_same, reduceIte, decide_true, decide_false, true_and, and_true]))
local macro_rules | `(tactic| walk_at "D") => `(tactic| (try simp only [qAsg, qRet, qDrop, qIfS, qTest, qAndT, qOrT, qNotT, qAndV, qOrV, qNotV, qIf, qOp, qUn, qChain, onB, qv, qc, qgN, qgT, qgCons, qgNil, qCons, qNil, qTup, qLst, qPar, qPar3, qAug, qCB, qCall, qLen, qTupleC, qListC, qMax2, qMin2, qIntC, qSum, qAny, qAll, qIsi, tyName, qAdd, qSub, qMul, qFdiv, qMod, qPow, qI2, qCmpI, qEq, qNe, qLt, qLe, qGt, qGe, qNeg, qIx, qDGet, qDIn, qDPut, qSl, qPart, qNoPart, qNext, qFor, qiSeq, qiRng1, qiRng2, qiZip, qiEnum, qLc, seqSrc, lsrc, titems, litems, sitems, fz, newL, List.getElem?_cons_zero, List.getElem?_cons_succ, List.set_cons_zero, List.set_cons_succ, if_true, if_false, Bool.false_eq_true, ite_true, ite_false, up_same, reduceIte, decide_true, decide_false, true_and, and_true, eqv_int, eqv_bool, eqv_TI, eqv_LI, eqv_TT, eqv_LT, eqv_nilL, eqv_nilT, shaped_TI, shaped_LI, shaped_TT, shaped_LT, shaped_int, shaped_bool, shaped_nilL, shaped_nilT, dints_map2, dbools_map2, datas_map, mkT_map, mkT_0, mkT_1, mkT_2, mkT_3, List.length_map, List.length_cons, List.length_nil, List.length_append, List.map_cons, List.map_nil, wipeD, Bool.not_true, Bool.not_false, eq_self, not_true_eq_false, not_false_eq_true, kitB_tt, kitB_ll, kitB_dd, kitB_bb, kitB_ib, kitB_ii, kitB_ss, kitB_tl, kitB_lt, Function.comp, datas, Option.map_some, List.cons_append, List.nil_append, CPow, le_size4, Int.toNat_natCast, rngD0, I_eq, Bo_eq, BS.qSortB, in_IT, in_IL, in_TT, in_TL, qNotN, qIsN, qSortD, qListRg, qDispT, keyX_TI, qGet, qiItems, qLockE, qLockS, qPop, qMaxDf, qLPut, qDNew, qListItems, qListDK, qLc2, qMax1, qMin1, qAppend, qExtend, tints_TI, dv_TI, Option.bind_some, qRetN, atI_0, atI_1, atI_2, mk_appT, mk_snocI, idl, rep_I, Option.map_none, eqv_idl, shaped_idl, Bool.and_self, Bool.true_and, Bool.and_true]))
local macro_rules | `(tactic| walk_at "F") => `(tactic| (try simp only [qAsg, qRet, qDrop, qIfS, qTest, qAndT, qOrT, qNotT, qAndV, qOrV, qNotV, qIf, qOp, qUn, qChain, onB, qv, qc, qgN, qgT, qgCons, qgNil, qCons, qNil, qTup, qLst, qPar, qPar3, qAug, qCB, qCall, qLen, qTupleC, qListC, qMax2, qMin2, qIntC, qSum, qAny, qAll, qIsi, tyName, qAdd, qSub, qMul, qFdiv, qMod, qPow, qI2, qCmpI, qEq, qNe, qLt, qLe, qGt, qGe, qNeg, qIx, qDGet, qDIn, qDPut, qSl, qPart, qNoPart, qNext, qFor, qiRng1, qiRng2, qiZip, qiEnum, qLc, fz, newL, List.getElem?_cons_zero, List.getElem?_cons_succ, List.set_cons_zero, List.set_cons_succ, if_true, if_false, Bool.false_eq_true, ite_true, ite_false, up_same, reduceIte, decide_true, decide_false, true_and, and_true, eqv_int, eqv_bool, eqv_TI, eqv_LI, eqv_TT, eqv_LT, eqv_nilL, eqv_nilT, shaped_TI, shaped_LI, shaped_TT, shaped_LT, shaped_int, shaped_bool, shaped_nilL, shaped_nilT, dints_map2, dbools_map2, datas_map, mkT_map, mkT_0, mkT_1, mkT_2, mkT_3, List.length_map, List.length_cons, List.length_nil, List.length_append, List.map_cons, List.map_nil, wipeD, Bool.not_true, Bool.not_false, eq_self, not_true_eq_false, not_false_eq_true, kitB_tt, kitB_ll, kitB_dd, kitB_bb, kitB_ib, kitB_ii, kitB_ss, kitB_tl, kitB_lt, Function.comp, datas, Option.map_some, List.cons_append, List.nil_append, CPow, le_size4, Int.toNat_natCast, rngD0, I_eq, Bo_eq, BS.qSortB, in_IT, in_IL, in_TT, in_TL, qNotN, qIsN, qSortD, qListRg, qDispT, keyX_TI, qGet, qiItems, qLockE, qLockS, qPop, qMaxDf, qLPut, qDNew, qListItems, qListDK, qLc2, qMax1, qMin1, qAppend, qExtend, tints_TI, dv_TI, Option.bind_some, qRetN, atI_0, atI_1, atI_2, mk_appT, mk_snocI, idl, rep_I, Option.map_none, eqv_idl, shaped_idl, Bool.and_self, Bool.true_and, Bool.and_true]))
namespace U
open PySem L2 DL RD UC CpComb
abbrev grD (n : Nat) (E : List (Int × Int)) : PyData := .tuple [.int (n : Int), .tuple (E.map fun p => TI (edg p))]
theorem eg_dv (E : List (Int × Int)) : (E.map fun p => TI (edg p)).map DV.d = E.map fun p => DV.d (.tuple [.int p.1, .int p.2]) := by
  rw [List.map_map]
  rfl
def sp_is_cover : SpD := fun xs st Q => ∃ (n : Nat) (E : List (Int × Int)) (c : List Int), xs = [.d (grD n E), .d (TI c)] ∧ E.length ≤ 1000 ∧ Q (Bo (covB E c)) st
theorem len_is_cover : ∀ xs st Q, sp_is_cover xs st Q → xs.length = 2 := by rintro xs st Q ⟨n, E, c, rfl, _⟩; rfl
theorem sem_is_cover : ∀ xs st Q, sp_is_cover xs st Q → rd_is_cover { nx := fun _ st' => Fg Q (.d .none) st', rt := Fg Q } (startD 4 xs) st := by
  rintro xs st Q ⟨n, E, c, rfl, hE, K⟩
  have e0 : startD 4 [.d (grD n E), .d (TI c)] = [some (.d (grD n E)), some (.d (TI c)), none, none] := rfl
  rw [e0]
  unfold rd_is_cover
  walk_at "D"
  try simp only [atI_1]
  walk_at "D"
  refine ⟨by rw [sizeL]; omega, ?_⟩
  rw [eg_dv]
  refine comp_mapT _ (fun p => Bo (decide (p.1 ∈ c) || decide (p.2 ∈ c))) trivial _ _ ?_ ?_
  · intro p hp Q1 h
    walk_at "D"
    by_cases c1 : p.1 ∈ c
    · simp only [c1, decide_true, Bool.true_or, if_true] at h ⊢
      exact h
    · simp only [c1, decide_false, Bool.false_or, Bool.false_eq_true, if_false] at h ⊢
      walk_at "D"
      exact h
  · rw [show ([] : List DV) ++ E.map (fun p => Bo (decide (p.1 ∈ c) || decide (p.2 ∈ c))) = ((E.map fun p => decide (p.1 ∈ c) || decide (p.2 ∈ c)).map PyData.bool).map .d by rw [List.nil_append, List.map_map, List.map_map]; rfl]
    walk_at "D"
    have ea : (E.map fun p => decide (p.1 ∈ c) || decide (p.2 ∈ c)).all id = covB E c := by
      unfold covB
      rw [List.all_map]
      rfl
    rw [ea]
    exact fg_ret K
abbrev LLs (rows : List (List Int)) : PyData := .list (rows.map LI)
def nbrB (rows : List (List Int)) (c : List Int) (v : Int) : Bool := (rows.getD v.toNat []).all fun x => decide (x ∈ c)
def lstB (E : List (Int × Int)) (rows : List (List Int)) (c : List Int) : Bool := covB E c && c.all fun v => !nbrB rows c v
theorem atI_rows {rows : List (List Int)} {n : Nat} (hr : rows.length = n) {v : Int} (h : 0 ≤ v ∧ v < (n : Int)) : atI ((rows.map LI).map DV.d) v = some (.d (LI (rows.getD v.toNat []))) := by
  obtain ⟨j, rfl⟩ : ∃ j : Nat, v = (j : Int) := ⟨v.toNat, by omega⟩
  have hj : j < rows.length := by omega
  refine atI_nat (j := j) ?_
  rw [List.getElem?_map, List.getElem?_map, List.getElem?_eq_getElem hj, Int.toNat_natCast, List.getD_eq_getElem?_getD, List.getElem?_eq_getElem hj]
  rfl
def sp_is_least_cover : SpD := fun xs st Q => ∃ (n : Nat) (E : List (Int × Int)) (rows : List (List Int)) (c : List Int), xs = [.d (grD n E), .d (LLs rows), .d (TI c)] ∧ E.length ≤ 1000 ∧ rows.length = n ∧ (∀ r ∈ rows, r.length ≤ 1000) ∧ (∀ x ∈ c, 0 ≤ x ∧ x < (n : Int)) ∧ Q (Bo (lstB E rows c)) st
theorem len_is_least_cover : ∀ xs st Q, sp_is_least_cover xs st Q → xs.length = 3 := by rintro xs st Q ⟨n, E, r, c, rfl, _⟩; rfl
theorem sem_is_least_cover : ∀ xs st Q, sp_is_least_cover xs st Q → rd_is_least_cover sp_is_cover { nx := fun _ st' => Fg Q (.d .none) st', rt := Fg Q } (startD 5 xs) st := by
  rintro xs st Q ⟨n, E, rows, c, rfl, hE, hr, hrl, hc, K⟩
  have e0 : startD 5 [.d (grD n E), .d (LLs rows), .d (TI c)] = [some (.d (grD n E)), some (.d (LLs rows)), some (.d (TI c)), none, none] := rfl
  rw [e0]
  unfold rd_is_least_cover
  unfold lstB at K
  refine seq fun N hN => ?_
  walk_at "D"
  refine ⟨n, E, c, rfl, hE, ?_⟩
  by_cases c1 : covB E c = true
  · rw [c1, Bool.true_and] at K
    rw [c1]
    walk_at "D"
    refine hN _ _ ?_; clear hN N
    refine seq fun N hN => ?_
    walk_at "D"
    rw [List.map_map]
    refine for_byT _ (fun i ε s => s = st ∧ (∃ y3, ε = [some (.d (grD n E)), some (.d (LLs rows)), some (.d (TI c)), y3, none]) ∧ ∀ v ∈ c.take i, nbrB rows c v = false) ⟨rfl, ⟨_, rfl⟩, fun v h => by rw [List.take_zero] at h; cases h⟩ (fun _ _ _ _ => trivial) ?_ ?_
    · rintro i v ε s hi ⟨rfl, ⟨y3, rfl⟩, hall⟩ L hL
      have hv := hc v (List.mem_of_getElem? hi)
      have hrv : (rows.getD v.toNat []).length ≤ 1000 := by
        have hj : v.toNat < rows.length := by omega
        rw [List.getD_eq_getElem?_getD, List.getElem?_eq_getElem hj]
        exact hrl _ (List.getElem_mem hj)
      walk_at "D"
      have ea := atI_rows hr hv
      simp only [ea]
      walk_at "D"
      refine ⟨by rw [sizeL]; omega, ?_⟩
      rw [List.map_map]
      refine comp_mapT _ (fun x => Bo (decide (x ∈ c))) trivial _ _ ?_ ?_
      · intro x hx Q1 h
        walk_at "D"
        exact h
      · rw [show ([] : List DV) ++ (rows.getD v.toNat []).map (fun x => Bo (decide (x ∈ c))) = (((rows.getD v.toNat []).map fun x => decide (x ∈ c)).map PyData.bool).map .d by rw [List.nil_append, List.map_map, List.map_map]; rfl]
        walk_at "D"
        have eb : ((rows.getD v.toNat []).map fun x => decide (x ∈ c)).all id = nbrB rows c v := by
          unfold nbrB
          rw [List.all_map]
          rfl
        rw [eb]
        cases e : nbrB rows c v with
        | true =>
          have : (c.all fun v => !nbrB rows c v) = false := by
            rw [List.all_eq_false]
            exact ⟨v, List.mem_of_getElem? hi, by rw [e]; decide⟩
          rw [this] at K
          walk_at "D"
          exact fg_ret K
        | false =>
          walk_at "D"
          refine hL _ _ ⟨rfl, ⟨_, rfl⟩, fun w hw => ?_⟩
          rw [List.take_succ, hi] at hw
          rcases List.mem_append.mp hw with z | z
          · exact hall w z
          · have : w = v := by simpa using z
            rw [this]
            exact e
    · rintro ε s ⟨rfl, ⟨y3, rfl⟩, hall⟩
      rw [List.take_length] at hall
      refine hN _ _ ?_
      have : (c.all fun v => !nbrB rows c v) = true := List.all_eq_true.mpr fun v hv => by rw [hall v hv]; rfl
      rw [this] at K
      walk_at "D"
      exact fg_ret K
  · have c1 : covB E c = false := by simpa using c1
    rw [c1, Bool.false_and] at K
    rw [c1]
    walk_at "D"
    exact fg_ret K
def RowOk (n : Nat) (E : List (Int × Int)) (rows : List (List Int)) : Prop := rows.length = n ∧ (∀ r ∈ rows, r.length ≤ 1000) ∧ ∀ i < n, ∀ x, x ∈ rows.getD i [] ↔ ∃ p ∈ E, (p.1 = (i : Int) ∧ p.2 = x) ∨ (p.2 = (i : Int) ∧ p.1 = x)
theorem lst_iff {n : Nat} {E : List (Int × Int)} {rows : List (List Int)} (h : GrOk n E) (hr : RowOk n E rows) {c : List Int} (ha : Asc c) (hl : Low n c) : lstB E rows c = true ↔ c ∈ mcL n E := by
  unfold lstB
  rw [Bool.and_eq_true, List.all_eq_true]
  constructor
  · rintro ⟨h1, h2⟩
    refine (least_iff h (mem_covL.mpr ⟨ha, hl, h1⟩)).mpr fun v hv => ?_
    have hv2 := hl v hv
    have := h2 v hv
    rw [Bool.not_eq_true', nbrB, List.all_eq_false] at this
    obtain ⟨x, hx, hn⟩ := this
    rw [decide_eq_true_eq] at hn
    obtain ⟨p, hp, z⟩ := (hr.2.2 v.toNat (by omega) x).mp hx
    rw [show ((v.toNat : Nat) : Int) = v by omega] at z
    refine ⟨p, hp, z.elim (fun y => .inl ⟨y.1, by rw [y.2]; exact hn⟩) fun y => .inr ⟨y.1, by rw [y.2]; exact hn⟩⟩
  · intro hm
    obtain ⟨c1, c2, c3⟩ := mc_cov hm
    refine ⟨c3, fun v hv => ?_⟩
    have hv2 := hl v hv
    obtain ⟨p, hp, z⟩ := (least_iff h (mem_minC.mp hm).1).mp hm v hv
    rw [Bool.not_eq_true', nbrB, List.all_eq_false]
    rcases z with ⟨e, hn⟩ | ⟨e, hn⟩
    · exact ⟨p.2, (hr.2.2 v.toNat (by omega) _).mpr ⟨p, hp, .inl ⟨by omega, rfl⟩⟩, by rw [decide_eq_true_eq]; exact hn⟩
    · exact ⟨p.1, (hr.2.2 v.toNat (by omega) _).mpr ⟨p, hp, .inr ⟨by omega, rfl⟩⟩, by rw [decide_eq_true_eq]; exact hn⟩
def nbL (E : List (Int × Int)) (i : Int) : List Int := E.flatMap fun p => (if p.1 = i then [p.2] else []) ++ if p.2 = i then [p.1] else []
theorem mem_nbL {E : List (Int × Int)} {i x : Int} : x ∈ nbL E i ↔ ∃ p ∈ E, (p.1 = i ∧ p.2 = x) ∨ (p.2 = i ∧ p.1 = x) := by
  unfold nbL
  rw [List.mem_flatMap]
  refine exists_congr fun p => and_congr_right fun _ => ?_
  rw [List.mem_append]
  constructor
  · rintro (h | h)
    · split at h
      · exact .inl ⟨‹_›, (List.mem_singleton.mp h).symm⟩
      · cases h
    · split at h
      · exact .inr ⟨‹_›, (List.mem_singleton.mp h).symm⟩
      · cases h
  · rintro (⟨h1, h2⟩ | ⟨h1, h2⟩)
    · exact .inl (by rw [if_pos h1, h2]; exact List.mem_singleton.mpr rfl)
    · exact .inr (by rw [if_pos h1, h2]; exact List.mem_singleton.mpr rfl)
theorem len_nbL (E : List (Int × Int)) (i : Int) : (nbL E i).length ≤ 2 * E.length := by
  induction E with
  | nil => exact Nat.zero_le _
  | cons p E ih =>
    unfold nbL at ih ⊢
    rw [List.flatMap_cons, List.length_append, List.length_append, List.length_cons]
    have h1 : (if p.1 = i then [p.2] else []).length ≤ 1 := by split <;> simp
    have h2 : (if p.2 = i then [p.1] else []).length ≤ 1 := by split <;> simp
    omega
theorem nbL_snoc (E : List (Int × Int)) (p : Int × Int) (i : Int) : nbL (E ++ [p]) i = (nbL E i ++ if p.1 = i then [p.2] else []) ++ if p.2 = i then [p.1] else [] := by
  unfold nbL
  rw [List.flatMap_append, List.flatMap_cons, List.flatMap_nil, List.append_nil, List.append_assoc]
theorem alike_intsL (L : List Int) : PySem.W.AllAlike (L.map PyData.int) := PySem.W.AllAlike.of fun a b => by simp [PySem.W.alike]
theorem sortX_intsL (L : List Int) : BS.SortX (L.map PyData.int) := .inl (PySem.W.Sortable.others fun b => ⟨(fun h => nomatch h), (fun xs h => nomatch h)⟩)
theorem sort_intsL (L : List Int) : (L.map PyData.int).mergeSort leD = (L.mergeSort fun a b => decide (a ≤ b)).map PyData.int := by
  refine (List.map_mergeSort (f := PyData.int) (s := leD) fun a _ b _ => ?_).symm
  show decide (a ≤ b) = leD (.int a) (.int b)
  have := congrFun (congrFun (PySem.W.dataLe_int (β := Int) id) a) b
  exact this.symm
theorem depthI {L : List Int} : ∀ d ∈ L.map PyData.int, d.depth ≤ 16 := fun d hd => by
  obtain ⟨x, _, rfl⟩ := List.mem_map.mp hd
  simp only [PyData.depth]
  omega
def sp_neighbours_of : SpD := fun xs st Q => ∃ (n : Nat) (E : List (Int × Int)), xs = [.d (grD n E)] ∧ n ≤ 1000 ∧ E.length ≤ 400 ∧ GrOk n E ∧ ∀ (rows : List (List Int)) st', RowOk n E rows → Le st st' → Q (.d (LLs rows)) st'
theorem len_neighbours_of : ∀ xs st Q, sp_neighbours_of xs st Q → xs.length = 1 := by rintro xs st Q ⟨n, E, rfl, _⟩; rfl
theorem atI_refs {ps : List Addr} {n : Nat} (hr : ps.length = n) {v : Int} (h : 0 ≤ v ∧ v < (n : Int)) : atI (ps.map DV.r) v = some (.r (ps.getD v.toNat 0)) := by
  obtain ⟨j, rfl⟩ : ∃ j : Nat, v = (j : Int) := ⟨v.toNat, by omega⟩
  have hj : j < ps.length := by omega
  refine atI_nat (j := j) ?_
  rw [List.getElem?_map, List.getElem?_eq_getElem hj, Int.toNat_natCast, List.getD_eq_getElem?_getD, List.getElem?_eq_getElem hj]
  rfl
theorem getD_ne {ps : List Addr} (nd : ps.Nodup) {i j : Nat} (hi : i < ps.length) (hj : j < ps.length) (h : i ≠ j) : ps.getD i 0 ≠ ps.getD j 0 := by
  rw [List.getD_eq_getElem?_getD, List.getD_eq_getElem?_getD, List.getElem?_eq_getElem hi, List.getElem?_eq_getElem hj]
  exact fun e => h ((List.getElem_inj nd).mp e)
theorem sem_neighbours_of : ∀ xs st Q, sp_neighbours_of xs st Q → rd_neighbours_of { nx := fun _ st' => Fg Q (.d .none) st', rt := Fg Q } (startD 6 xs) st := by
  rintro xs st Q ⟨n, E, rfl, hn, hE, hG, K⟩
  have e0 : startD 6 [.d (grD n E)] = [some (.d (grD n E)), none, none, none, none, none] := rfl
  rw [e0]
  unfold rd_neighbours_of
  refine seq fun N hN => ?_
  walk_at "D"
  try simp only [atI_0]
  walk_at "D"
  refine ⟨by omega, by omega, by rw [List.length_range, sizeL]; omega, ?_⟩
  refine comp_wordI _ (fun i acc s => ∃ ps : List Addr, acc = ps.map DV.r ∧ ps.length = i ∧ ps.Nodup ∧ (∀ p ∈ ps, s p = some (.lst []) ∧ st p = none) ∧ ∀ b, b ∉ ps → s b = st b) (fun _ _ _ _ => trivial) _ st ⟨[], rfl, rfl, List.nodup_nil, fun p h => (nomatch h), fun b _ => rfl⟩ ?_ ?_
  · rintro i k acc s hi ⟨ps, rfl, hl, nd, hs, fr⟩ Q1 hQ1
    walk_at "D"
    refine ⟨by decide, fun p hp => ?_⟩
    have hpn : p ∉ ps := fun z => by rw [(hs p z).1] at hp; cases hp
    refine hQ1 _ _ ⟨ps ++ [p], by rw [List.map_append]; rfl, by rw [List.length_append, hl]; rfl, ?_, fun q hq => ?_, fun b hb => ?_⟩
    · rw [List.nodup_append]
      refine ⟨nd, by simp, fun a ha b hb e => ?_⟩
      rw [List.mem_singleton.mp hb] at e
      exact hpn (e ▸ ha)
    · rcases List.mem_append.mp hq with z | z
      · have : q ≠ p := fun e => hpn (e ▸ z)
        rw [up_ne this]
        exact hs q z
      · rw [List.mem_singleton.mp z]
        exact ⟨up_same, by rw [← fr p hpn]; exact hp⟩
    · rw [up_ne fun e => hb (List.mem_append_right _ (List.mem_singleton.mpr e))]
      exact fr b fun z => hb (List.mem_append_left _ z)
  rintro acc s ⟨ps, rfl, hl, nd, hs, fr⟩
  rw [List.length_range] at hl
  walk_at "D"
  refine fun q hq => hN _ _ ?_; clear hN N
  have hqn : q ∉ ps := fun z => by rw [(hs q z).1] at hq; cases hq
  refine seq fun N hN => ?_
  walk_at "D"
  try simp only [atI_1]
  walk_at "D"
  rw [eg_dv]
  have hmem : ∀ i < n, ps.getD i 0 ∈ ps := fun i hi => by
    rw [List.getD_eq_getElem?_getD, List.getElem?_eq_getElem (by omega : i < ps.length)]
    exact List.getElem_mem _
  refine for_byT _ (fun i ε s' => (∃ y2 y3, ε = [some (.d (grD n E)), some (.r q), y2, y3, none, none]) ∧ s' q = some (.lst (ps.map DV.r)) ∧ (∀ j < n, s' (ps.getD j 0) = some (.lst (((nbL (E.take i) (j : Int)).map PyData.int).map .d))) ∧ ∀ b, b ∉ ps → b ≠ q → s' b = st b) ⟨⟨_, _, rfl⟩, up_same, fun j hj => ?_, fun b hb hbq => by rw [up_ne hbq]; exact fr b hb⟩ (fun _ _ _ _ => trivial) ?_ ?_
  · rw [up_ne (fun (e : ps.getD j 0 = q) => hqn (e ▸ hmem j hj))]
    exact (hs _ (hmem j hj)).1
  · rintro i p ε s' hi ⟨⟨y2, y3, rfl⟩, hq', hrow, fr'⟩ L hL
    have hp := hG.low p (List.mem_of_getElem? hi)
    have hiE : i < E.length := (List.getElem?_eq_some_iff.mp hi).1
    have l1 := len_nbL (E.take i)
    rw [List.length_take] at l1
    have a1 := atI_refs hl (v := p.1) ⟨by omega, by omega⟩
    have a2 := atI_refs hl (v := p.2) ⟨by omega, by omega⟩
    have j1 : p.1.toNat < n := by omega
    have j2 : p.2.toNat < n := by omega
    have ne12 : ps.getD p.2.toNat 0 ≠ ps.getD p.1.toNat 0 := getD_ne nd (by omega) (by omega) (by omega)
    have nq : ∀ j < n, q ≠ ps.getD j 0 := fun j hj e => hqn (e ▸ hmem j hj)
    have r1 := hrow _ j1
    have r2 := hrow _ j2
    walk_at "D"
    refine seq fun N2 hN2 => ?_
    walk_at "D"
    simp only [hq', a1]
    refine ⟨⟨_, r1⟩, _, r1, by rw [List.length_map, List.length_map, sizeL]; have := l1 ((p.1.toNat : Nat) : Int); omega, hN2 _ _ ?_⟩; clear hN2 N2
    walk_at "D"
    have r2' : up s' (ps.getD p.1.toNat 0) (.lst (((nbL (E.take i) ((p.1.toNat : Nat) : Int)).map PyData.int).map .d ++ [.d (.int p.2)])) (ps.getD p.2.toNat 0) = some (.lst (((nbL (E.take i) ((p.2.toNat : Nat) : Int)).map PyData.int).map .d)) := by
      rw [up_ne ne12]
      exact r2
    simp only [up_ne (nq _ j1), hq', a2]
    refine ⟨⟨_, r2'⟩, _, r2', by rw [List.length_map, List.length_map, sizeL]; have := l1 ((p.2.toNat : Nat) : Int); omega, hL _ _ ⟨⟨_, _, rfl⟩, ?_, fun j hj => ?_, fun b hb hbq => ?_⟩⟩
    · rw [up_ne (nq _ j2), up_ne (nq _ j1)]
      exact hq'
    · rw [List.take_succ, hi]
      show _ = some (MO.lst (((nbL (E.take i ++ [p]) (j : Int)).map PyData.int).map .d))
      rw [nbL_snoc]
      by_cases c2 : p.2 = (j : Int)
      · have e2 : p.2.toNat = j := by omega
        rw [e2, up_same, if_pos c2, if_neg (by omega : ¬ p.1 = (j : Int)), List.append_nil, List.map_append, List.map_append]
        rfl
      · have n2 : ps.getD j 0 ≠ ps.getD p.2.toNat 0 := getD_ne nd (by omega) (by omega) (by omega)
        rw [up_ne n2, if_neg c2, List.append_nil]
        by_cases c1 : p.1 = (j : Int)
        · have e1 : p.1.toNat = j := by omega
          rw [e1, up_same, if_pos c1, List.map_append, List.map_append]
          rfl
        · rw [up_ne (getD_ne nd (by omega) (by omega) (by omega)), if_neg c1, List.append_nil]
          exact hrow j hj
    · rw [up_ne (fun (e : b = ps.getD p.2.toNat 0) => hb (e ▸ hmem _ j2)), up_ne (fun (e : b = ps.getD p.1.toNat 0) => hb (e ▸ hmem _ j1))]
      exact fr' b hb hbq
  · rintro ε s' ⟨⟨y2, y3, rfl⟩, hq', hrow, fr'⟩
    rw [List.take_length] at hrow
    refine hN _ _ ?_
    walk_at "D"
    simp only [hq']
    refine ⟨by rw [List.length_map, sizeL]; omega, ?_⟩
    have srt : ∀ i < n, ((nbL E (i : Int)).mergeSort fun a b => decide (a ≤ b)).length ≤ 1000 := fun i _ => by
      rw [List.length_mergeSort]
      have := len_nbL E (i : Int)
      omega
    have em : ps.map DV.r = (List.range n).map fun j => DV.r (ps.getD j 0) := by
      refine List.ext_getElem (by rw [List.length_map, List.length_map, List.length_range]; exact hl) fun j h1 h2 => ?_
      rw [List.getElem_map, List.getElem_map, List.getElem_range, List.getD_eq_getElem?_getD, List.getElem?_eq_getElem (by rw [List.length_map] at h1; exact h1)]
      rfl
    have hq2 : s' q = some (MO.lst ((List.range n).map fun j => DV.r (ps.getD j 0))) := by
      rw [← em]
      exact hq'
    rw [em]
    refine comp_mapT _ (fun (j : Nat) => .d (LI ((nbL E (j : Int)).mergeSort fun a b => decide (a ≤ b)))) hq2 _ _ ?_ ?_
    · intro j hj Q1 h
      have hj := List.mem_range.mp hj
      have hr := hrow j hj
      walk_at "D"
      simp only [hr]
      walk_at "D"
      refine ⟨alike_intsL _, sortX_intsL _, by have := len_nbL E (j : Int); omega, depthI, ?_⟩
      rw [sort_intsL]
      exact h
    · rw [show ([] : List DV) ++ (List.range n).map (fun (j : Nat) => DV.d (LI ((nbL E (j : Int)).mergeSort fun a b => decide (a ≤ b)))) = ((((List.range n).map fun (j : Nat) => (nbL E (j : Int)).mergeSort fun a b => decide (a ≤ b))).map LI).map .d by rw [List.nil_append, List.map_map, List.map_map]; rfl]
      walk_at "D"
      refine fg_ret (K _ s' ⟨by rw [List.length_map, List.length_range], fun r hr => ?_, fun i hi x => ?_⟩ fun a m e => ?_)
      · obtain ⟨j, hj, rfl⟩ := List.mem_map.mp hr
        exact srt j (List.mem_range.mp hj)
      · rw [List.getD_eq_getElem?_getD, List.getElem?_map, List.getElem?_range hi]
        show x ∈ ((nbL E (i : Int)).mergeSort fun a b => decide (a ≤ b)) ↔ _
        rw [(List.mergeSort_perm _ _).mem_iff, mem_nbL]
      · have h1 : a ∉ ps := fun z => by rw [(hs a z).2] at e; cases e
        have h2 : a ≠ q := fun z => by
          rw [fr q hqn] at hq
          rw [z, hq] at e
          cases e
        rw [fr' a h1 h2]
        exact e
theorem len_comb6 {n : Nat} (hn : n ≤ 6) (r : Nat) : (combL (rangeI n) r).length ≤ 64 := Nat.le_trans (len_combL _ r) (Nat.le_trans (Nat.pow_le_pow_right (by decide) (show (rangeI n).length ≤ 6 by rw [List.length_map, List.length_range]; exact hn)) (by decide))
theorem comb_ok {n r : Nat} {c : List Int} (h : c ∈ combL (rangeI n) r) : Asc c ∧ Low n c ∧ c.length = r := by
  obtain ⟨h1, h2⟩ := mem_combL.mp h
  exact ⟨(asc_rngV n).sublist h1, fun x hx => mem_rngV.mp (h1.subset hx), h2⟩
theorem ok_comb {n : Nat} {c : List Int} (h1 : Asc c) (h2 : Low n c) : c ∈ combL (rangeI n) c.length := mem_combL.mpr ⟨asc_sub h1 (asc_rngV n) fun x hx => mem_rngV.mpr (h2 x hx), rfl⟩
def sp_least_cover : SpD := fun xs st Q => ∃ (n : Nat) (E : List (Int × Int)), xs = [.d (grD n E)] ∧ n ≤ 6 ∧ E.length ≤ 1000 ∧ GrOk n E ∧ ∀ c, c ∈ covL n E → (∀ d ∈ covL n E, c.length ≤ d.length) → Q (.d (TI c)) st
theorem len_least_cover : ∀ xs st Q, sp_least_cover xs st Q → xs.length = 1 := by rintro xs st Q ⟨n, E, rfl, _⟩; rfl
theorem sem_least_cover : ∀ xs st Q, sp_least_cover xs st Q → rd_least_cover sp_is_cover { nx := fun _ st' => Fg Q (.d .none) st', rt := Fg Q } (startD 3 xs) st := by
  rintro xs st Q ⟨n, E, rfl, hn, hE, hG, K⟩
  have e0 : startD 3 [.d (grD n E)] = [some (.d (grD n E)), none, none] := rfl
  rw [e0]
  unfold rd_least_cover
  refine seq fun N hN => ?_
  walk_at "D"
  try simp only [atI_0]
  walk_at "D"
  refine ⟨by omega, by omega, ?_⟩
  walk_at "D"
  obtain ⟨w, hw⟩ : ∃ w : Nat, (n : Int) + 1 = (w : Int) := ⟨n + 1, by omega⟩
  try rw [hw]
  refine for_byT _ (fun i ε s => s = st ∧ (∃ y1 y2, ε = [some (.d (grD n E)), y1, y2]) ∧ ∀ c ∈ covL n E, i ≤ c.length) ⟨rfl, ⟨_, _, rfl⟩, fun _ _ => Nat.zero_le _⟩ (fun _ _ _ _ => trivial) ?_ ?_
  · rintro i r ε s hi ⟨rfl, ⟨y1, y2, rfl⟩, hall⟩ L hL
    obtain ⟨rfl, hiw⟩ := range_some hi
    walk_at "D"
    simp only [qiCombR]
    walk_at "D"
    try simp only [atI_0]
    walk_at "D"
    refine ⟨⟨by omega, by omega⟩, ⟨by omega, by omega⟩, ?_⟩
    rw [rng_dv, comb_dv]
    refine for_byT _ (fun j ε s' => s' = s ∧ (∃ y2, ε = [some (.d (grD n E)), some (I (r : Int)), y2]) ∧ ∀ c ∈ (combL (rangeI n) r).take j, covB E c = false) ⟨rfl, ⟨_, rfl⟩, fun c h => by rw [List.take_zero] at h; cases h⟩ (fun _ _ _ _ => trivial) ?_ ?_
    · rintro j c ε s hj ⟨rfl, ⟨y2, rfl⟩, hno⟩ L2 hL2
      have hcm := List.mem_of_getElem? hj
      obtain ⟨c1, c2, c3⟩ := comb_ok hcm
      walk_at "D"
      refine ⟨n, E, c, rfl, hE, ?_⟩
      cases e : covB E c with
      | true =>
        walk_at "D"
        exact fg_ret (K c (mem_covL.mpr ⟨c1, c2, e⟩) fun d hd => by rw [c3]; exact hall d hd)
      | false =>
        walk_at "D"
        refine hL2 _ _ ⟨rfl, ⟨_, rfl⟩, fun d hd => ?_⟩
        rw [List.take_succ, hj] at hd
        rcases List.mem_append.mp hd with z | z
        · exact hno d z
        · have : d = c := by simpa using z
          rw [this]
          exact e
    · rintro ε s ⟨rfl, ⟨y2, rfl⟩, hno⟩
      rw [List.take_length] at hno
      refine hL _ _ ⟨rfl, ⟨_, _, rfl⟩, fun c hc => ?_⟩
      have h1 := hall c hc
      obtain ⟨c1, c2, c3⟩ := mem_covL.mp hc
      rcases Nat.lt_or_ge r c.length with z | z
      · exact z
      · have : c.length = r := by omega
        have h2 := hno c (by rw [← this]; exact ok_comb c1 c2)
        rw [c3] at h2
        cases h2
  · rintro ε s ⟨rfl, ⟨y1, y2, rfl⟩, hall⟩
    have h1 := hall _ (full_cov hG)
    rw [List.length_map, List.length_range, List.length_range] at h1
    omega
def sp_cover_ideal : SpD := fun xs st Q => ∃ (n : Nat) (E : List (Int × Int)), xs = [.d (grD n E)] ∧ 1 ≤ n ∧ n ≤ 6 ∧ E.length ≤ 400 ∧ GrOk n E ∧ (cvG n E).length ≤ 60 ∧ Q (.d (idl n (cvG n E))) st
theorem len_cover_ideal : ∀ xs st Q, sp_cover_ideal xs st Q → xs.length = 1 := by rintro xs st Q ⟨n, E, rfl, _⟩; rfl
def cvN (n : Nat) (E : List (Int × Int)) (rows : List (List Int)) (k : Nat) : List (List Int) := (List.range k).flatMap fun r => (combL (rangeI n) r).filter (lstB E rows)
theorem cvN_succ (n : Nat) (E : List (Int × Int)) (rows : List (List Int)) (k : Nat) : cvN n E rows (k + 1) = cvN n E rows k ++ (combL (rangeI n) k).filter (lstB E rows) := by
  unfold cvN
  rw [List.range_succ, List.flatMap_append]
  simp
theorem len_cvN {n : Nat} (hn : n ≤ 6) (E : List (Int × Int)) (rows : List (List Int)) : ∀ k, (cvN n E rows k).length ≤ 64 * k
  | 0 => Nat.zero_le _
  | k + 1 => by
    rw [cvN_succ, List.length_append]
    have h1 := len_cvN hn E rows k
    have h2 := Nat.le_trans (List.length_filter_le (lstB E rows) (combL (rangeI n) k)) (len_comb6 hn k)
    omega
theorem mem_cvN {n : Nat} {E : List (Int × Int)} {rows : List (List Int)} (h : GrOk n E) (hr : RowOk n E rows) {c : List Int} : c ∈ cvN n E rows (n + 1) ↔ c ∈ mcL n E := by
  unfold cvN
  rw [List.mem_flatMap]
  constructor
  · rintro ⟨r, _, hc⟩
    obtain ⟨h1, h2⟩ := List.mem_filter.mp hc
    obtain ⟨c1, c2, _⟩ := comb_ok h1
    exact (lst_iff h hr c1 c2).mp h2
  · intro hm
    obtain ⟨c1, c2, _⟩ := mc_cov hm
    have := asc_long c1 c2
    exact ⟨c.length, List.mem_range.mpr (by omega), List.mem_filter.mpr ⟨ok_comb c1 c2, (lst_iff h hr c1 c2).mpr hm⟩⟩
theorem sem_cover_ideal : ∀ xs st Q, sp_cover_ideal xs st Q → rd_cover_ideal sp_neighbours_of sp_is_least_cover sp_product_of_vertices sp_made { nx := fun _ st' => Fg Q (.d .none) st', rt := Fg Q } (startD 6 xs) st := by
  rintro xs st Q ⟨n, E, rfl, h1, h6, hE, hG, h60, K⟩
  have e0 : startD 6 [.d (grD n E)] = [some (.d (grD n E)), none, none, none, none, none] := rfl
  rw [e0]
  unfold rd_cover_ideal
  refine seq fun N hN => ?_
  walk_at "D"
  try simp only [atI_0]
  walk_at "D"
  refine ⟨n, E, rfl, by omega, by omega, hG, fun rows s1 hr le1 => ?_⟩
  walk_at "D"
  refine ⟨by decide, fun p hp => ?_⟩
  refine hN _ _ ?_; clear hN N
  refine seq fun N hN => ?_
  walk_at "D"
  obtain ⟨w, hw⟩ : ∃ w : Nat, (n : Int) + 1 = (w : Int) := ⟨n + 1, by omega⟩
  try rw [hw]
  refine ⟨by omega, by omega, ?_⟩
  walk_at "D"
  refine for_byT _ (fun i ε s => (∃ y4 y5, ε = [some (.d (grD n E)), some (I n), some (.d (LLs rows)), some (.r p), y4, y5]) ∧ (∀ b, b ≠ p → s b = s1 b) ∧ s p = some (.lst ((((cvN n E rows i).map (xV n)).map TI).map .d))) ⟨⟨_, _, rfl⟩, fun b hb => up_ne hb, up_same⟩ (fun _ _ _ _ => trivial) ?_ ?_
  · rintro i r ε s hi ⟨⟨y4, y5, rfl⟩, fr, hs⟩ L hL
    obtain ⟨rfl, hiw⟩ := range_some hi
    have hln := len_cvN h6 E rows r
    have hcl := len_comb6 h6 r
    walk_at "D"
    simp only [qiCombR]
    walk_at "D"
    refine ⟨⟨by omega, by omega⟩, ⟨by omega, by omega⟩, ?_⟩
    rw [rng_dv, comb_dv]
    refine for_byT _ (fun j ε s' => (∃ y5, ε = [some (.d (grD n E)), some (I n), some (.d (LLs rows)), some (.r p), some (I (r : Int)), y5]) ∧ (∀ b, b ≠ p → s' b = s1 b) ∧ s' p = some (.lst ((((cvN n E rows r ++ ((combL (rangeI n) r).take j).filter (lstB E rows)).map (xV n)).map TI).map .d))) ⟨⟨_, rfl⟩, fr, by rw [List.take_zero, List.filter_nil, List.append_nil]; exact hs⟩ (fun _ _ _ _ => trivial) ?_ ?_
    · rintro j c ε s' hj ⟨⟨y5, rfl⟩, fr', hs'⟩ L2 hL2
      obtain ⟨c1, c2, c3⟩ := comb_ok (List.mem_of_getElem? hj)
      have hnx : ((combL (rangeI n) r).take (j + 1)).filter (lstB E rows) = ((combL (rangeI n) r).take j).filter (lstB E rows) ++ if lstB E rows c = true then [c] else [] := by
        rw [List.take_succ, hj, List.filter_append]
        congr 1
        show List.filter (lstB E rows) [c] = _
        rw [List.filter_cons, List.filter_nil]
      have hlen2 : (cvN n E rows r ++ ((combL (rangeI n) r).take j).filter (lstB E rows)).length ≤ 4000 := by
        rw [List.length_append]
        have := List.length_filter_le (lstB E rows) ((combL (rangeI n) r).take j)
        rw [List.length_take] at this
        omega
      walk_at "D"
      refine ⟨n, E, rows, c, rfl, by omega, hr.1, hr.2.1, c2, ?_⟩
      cases e : lstB E rows c with
      | true =>
        rw [e, if_pos rfl] at hnx
        walk_at "D"
        refine ⟨⟨_, hs'⟩, n, c, rfl, by omega, ?_⟩
        refine ⟨_, hs', by simp only [List.length_map, sizeL]; omega, hL2 _ _ ⟨⟨_, rfl⟩, fun b hb => by rw [up_ne hb]; exact fr' b hb, ?_⟩⟩
        rw [up_same, hnx, ← List.append_assoc]
        simp only [List.map_append, List.map_cons, List.map_nil]
      | false =>
        rw [e, if_neg Bool.false_ne_true, List.append_nil] at hnx
        walk_at "D"
        refine hL2 _ _ ⟨⟨_, rfl⟩, fr', ?_⟩
        rw [hnx]
        exact hs'
    · rintro ε s' ⟨⟨y5, rfl⟩, fr', hs'⟩
      rw [List.take_length] at hs'
      refine hL _ _ ⟨⟨_, _, rfl⟩, fr', ?_⟩
      rw [cvN_succ]
      exact hs'
  · rintro ε s ⟨⟨y4, y5, rfl⟩, fr, hs⟩
    refine hN _ _ ?_
    rw [List.length_range, show w = n + 1 by omega] at hs
    have em := cv_made (n := n) (E := E) (L := cvN n E rows (n + 1)) fun c => mem_cvN hG hr
    have hln := len_cvN h6 E rows (n + 1)
    walk_at "D"
    refine ⟨.r p, (cvN n E rows (n + 1)).map (xV n), n, rfl, ?_, ⟨h1, by omega, by rw [List.length_map]; omega, fun t ht => ?_⟩, by rw [em]; exact h60, ?_⟩
    · show litems s (DV.r p) = _
      simp only [litems, hs]
    · obtain ⟨c, _, rfl⟩ := List.mem_map.mp ht
      exact (mon_xV n c).mono (by decide)
    · rw [em]
      refine fg_le (fun a m e => ?_) K
      have e1 := le1 a m e
      have : a ≠ p := fun z => by rw [z, hp] at e1; cases e1
      rw [fr a this]
      exact e1
def sp_edge_ideal : SpD := fun xs st Q => ∃ (n : Nat) (E : List (Int × Int)), xs = [.d (grD n E)] ∧ 1 ≤ n ∧ n ≤ 100 ∧ E.length ≤ 60 ∧ GrOk n E ∧ Q (.d (idl n (egG n E))) st
theorem len_edge_ideal : ∀ xs st Q, sp_edge_ideal xs st Q → xs.length = 1 := by rintro xs st Q ⟨n, E, rfl, _⟩; rfl
theorem sem_edge_ideal : ∀ xs st Q, sp_edge_ideal xs st Q → rd_edge_ideal sp_product_of_vertices sp_made { nx := fun _ st' => Fg Q (.d .none) st', rt := Fg Q } (startD 2 xs) st := by
  rintro xs st Q ⟨n, E, rfl, h1, h6, hE, hG, K⟩
  have e0 : startD 2 [.d (grD n E)] = [some (.d (grD n E)), none] := rfl
  rw [e0]
  unfold rd_edge_ideal
  walk_at "D"
  try simp only [atI_0, atI_1]
  walk_at "D"
  refine ⟨by rw [sizeL]; omega, ?_⟩
  rw [List.map_map]
  refine comp_mapT _ (fun p => .d (TI (xV n (edg p)))) trivial _ _ ?_ ?_
  · intro p hp Q1 h
    walk_at "D"
    try simp only [atI_0]
    walk_at "D"
    exact ⟨n, edg p, rfl, by omega, h⟩
  · rw [show ([] : List DV) ++ E.map (fun p => DV.d (TI (xV n (edg p)))) = ((egL n E).map TI).map .d by unfold egL; rw [List.nil_append, List.map_map, List.map_map]; rfl]
    walk_at "D"
    have hl : (egL n E).length = E.length := List.length_map ..
    refine ⟨_, egL n E, n, rfl, rfl, ⟨h1, by omega, by omega, fun t ht => (mon_unit (unit_egL t ht)).mono (by decide)⟩, Nat.le_trans (min_len _) (by omega), ?_⟩
    rw [min_egL hG]
    exact fg_ret K
def sp_law_graph : SpD := fun xs st Q => ∃ (m : Addr) (B : Nat), xs = [.r m] ∧ B + 200 < 2 ^ 50 ∧ DrawSt st m B ∧ ∀ (n : Nat) (E : List (Int × Int)) st', 2 ≤ n → n ≤ 6 → GrOk n E → E.length ≤ 10 → DrawSt st' m (B + 200) → Q (.d (grD n E)) st'
theorem len_law_graph : ∀ xs st Q, sp_law_graph xs st Q → xs.length = 1 := by rintro xs st Q ⟨m, B, rfl, _⟩; rfl
theorem DrawSt.frame {st st' : Sto} {a : Addr} {B : Nat} (D : DrawSt st a B) (h : st' a = st a) : DrawSt st' a B := by
  obtain ⟨l, s, c, p, h1, h2⟩ := D
  exact ⟨l, s, c, p, h.trans h1, h2⟩
def pr2 (p : Int × Int) : PyData := .tuple [.int p.1, .int p.2]
theorem sem_law_graph : ∀ xs st Q, sp_law_graph xs st Q → rd_law_graph sp_law_draw { nx := fun _ st' => Fg Q (.d .none) st', rt := Fg Q } (startD 5 xs) st := by
  rintro xs st Q ⟨m, B, rfl, hB, D, K⟩
  have e0 : startD 5 [.r m] = [some (.r m), none, none, none, none] := rfl
  rw [e0]
  unfold rd_law_graph
  refine seq fun N hN => ?_
  walk_at "D"
  refine draw D (by omega) (by omega) (by omega) fun z s2 l2 u2 D2 _ => ?_
  obtain ⟨n, hn⟩ : ∃ n : Nat, 2 + z = (n : Int) := ⟨(2 + z).toNat, by omega⟩
  walk_at "D"
  rw [hn]
  have n2 : 2 ≤ n := by omega
  have n6 : n ≤ 6 := by omega
  refine hN _ _ ?_; clear hN N hn l2 u2
  refine seq fun N hN => ?_
  walk_at "D"
  refine ⟨by decide, fun p hp => hN _ _ ?_⟩; clear hN N
  have hmp : p ≠ m := fun e => by
    obtain ⟨_, _, _, _, h, _⟩ := D2
    rw [e, h] at hp
    cases hp
  refine seq fun N hN => ?_
  walk_at "D"
  refine ⟨by omega, by omega, ?_⟩
  walk_at "D"
  refine for_byT _ (fun i ε s => (∃ y3 y4, ε = [some (.r m), some (I n), some (.r p), y3, y4]) ∧ DrawSt s m (B + 1 + 8 * i) ∧ ∃ E : List (Int × Int), s p = some (.lst ((E.map pr2).map .d)) ∧ GrOk n E ∧ E.length ≤ 10 ∧ ∀ q ∈ E, q.1 < (i : Int)) ⟨⟨_, _, rfl⟩, DrawSt.frame D2 (up_ne (Ne.symm hmp)), [], up_same, ⟨fun p h => (nomatch h), List.nodup_nil⟩, Nat.zero_le _, fun q h => (nomatch h)⟩ (fun _ _ _ _ => trivial) ?_ ?_
  · rintro i k ε s hi ⟨⟨y3, y4, rfl⟩, D3, E, hs, hG, hl, hlt⟩ L hL
    obtain ⟨rfl, hin⟩ := range_some hi
    walk_at "D"
    refine ⟨⟨by omega, by omega, by omega, by omega⟩, ?_⟩
    unfold rngD
    refine for_byT _ (fun j ε s' => (∃ y4, ε = [some (.r m), some (I n), some (.r p), some (I (k : Int)), y4]) ∧ DrawSt s' m (B + 1 + 8 * k + j) ∧ ∃ E : List (Int × Int), s' p = some (.lst ((E.map pr2).map .d)) ∧ GrOk n E ∧ E.length ≤ 10 ∧ ∀ q ∈ E, q.1 < (k : Int) ∨ (q.1 = (k : Int) ∧ q.2 < (k : Int) + 1 + (j : Int))) ⟨⟨_, rfl⟩, D3, E, hs, hG, hl, fun q hq => .inl (hlt q hq)⟩ (fun _ _ _ _ => trivial) ?_ ?_
    · rintro j b ε s' hj ⟨⟨y4, rfl⟩, D4, E, hs, hG, hl, hlt⟩ L2 hL2
      obtain ⟨rfl, hjn⟩ := range_some hj
      walk_at "D"
      refine draw D4 (by omega) (by omega) (by omega) fun x s5 l5 u5 D5 fr5 => ?_
      have hs5 : s5 p = some (.lst ((E.map pr2).map .d)) := by rw [fr5 p hmp]; exact hs
      have hstay : L2 [some (.r m), some (I n), some (.r p), some (I (k : Int)), some (I ((k : Int) + 1 + (b : Int)))] s5 := hL2 _ _ ⟨⟨_, rfl⟩, D5, E, hs5, hG, hl, fun q hq => by
        have := hlt q hq
        omega⟩
      walk_at "D"
      by_cases c1 : 0 < x
      · simp only [c1, decide_true, if_true]
        walk_at "D"
        simp only [hs5]
        walk_at "D"
        by_cases c2 : (E.length : Int) < 10
        · simp only [c2, decide_true, if_true]
          walk_at "D"
          refine ⟨⟨_, rfl⟩, by decide, _, rfl, by rw [List.length_map, List.length_map, sizeL]; omega, hL2 _ _ ⟨⟨_, rfl⟩, DrawSt.frame D5 (up_ne (Ne.symm hmp)), E ++ [((k : Int), (k : Int) + 1 + (b : Int))], ?_, ⟨fun q hq => ?_, ?_⟩, by rw [List.length_append, List.length_singleton]; omega, fun q hq => ?_⟩⟩
          · rw [up_same, List.map_append, List.map_append]
            rfl
          · rcases List.mem_append.mp hq with y | y
            · exact hG.low q y
            · rw [List.mem_singleton.mp y]
              exact ⟨by omega, by omega, by omega⟩
          · rw [List.nodup_append]
            refine ⟨hG.nd, by simp, fun a ha q hq e => ?_⟩
            rw [List.mem_singleton.mp hq] at e
            have := hlt a ha
            rw [e] at this
            omega
          · rcases List.mem_append.mp hq with y | y
            · have := hlt q y
              omega
            · rw [List.mem_singleton.mp y]
              exact .inr ⟨rfl, by omega⟩
        · simp only [c2, decide_false, Bool.false_eq_true, if_false]
          exact hstay
      · simp only [c1, decide_false, Bool.false_eq_true, if_false]
        exact hstay
    · rintro ε s' ⟨⟨y4, rfl⟩, D4, E, hs, hG, hl, hlt⟩
      rw [List.length_range] at D4
      exact hL _ _ ⟨⟨_, _, rfl⟩, D4.mono (by omega), E, hs, hG, hl, fun q hq => by have := hlt q hq; omega⟩
  · rintro ε s ⟨⟨y3, y4, rfl⟩, D3, E, hs, hG, hl, hlt⟩
    rw [List.length_range] at D3
    refine hN _ _ ?_
    walk_at "D"
    refine draw D3 (by omega) (by omega) (by omega) fun x s5 l5 u5 D5 fr5 => ?_
    have hs5 : s5 p = some (.lst ((E.map pr2).map .d)) := by rw [fr5 p hmp]; exact hs
    walk_at "D"
    by_cases c1 : 0 < x
    · simp only [c1, decide_true, if_true]
      walk_at "D"
      simp only [hs5]
      walk_at "D"
      exact ⟨by decide, fg_ret (K n E s5 n2 n6 hG hl (D5.mono (by omega)))⟩
    · simp only [c1, decide_false, Bool.false_eq_true, if_false]
      walk_at "D"
      exact ⟨by decide, by decide, fg_ret (K n [] s5 n2 n6 ⟨fun p h => (nomatch h), List.nodup_nil⟩ (Nat.zero_le _) (D5.mono (by omega)))⟩
theorem cov_filter (E : List (Int × Int)) (c : List Int) : decide (E.filter (fun p => !decide (p.1 ∈ c) && !decide (p.2 ∈ c)) = []) = covB E c := by
  rw [Bool.eq_iff_iff, decide_eq_true_eq, cov_iff, List.filter_eq_nil_iff]
  refine forall_congr' fun p => forall_congr' fun _ => ?_
  rw [Bool.and_eq_true, Bool.not_eq_true', Bool.not_eq_true', decide_eq_false_iff_not, decide_eq_false_iff_not]
  exact ⟨fun h => Classical.byContradiction fun z => h ⟨fun y => z (.inl y), fun y => z (.inr y)⟩, fun h z => h.elim z.1 z.2⟩
def sp_law_covers : SpD := fun xs st Q => ∃ (n : Nat) (E : List (Int × Int)), xs = [I n, .d (.tuple (E.map fun p => TI (edg p)))] ∧ n ≤ 6 ∧ E.length ≤ 1000 ∧ Q (.d (TT (dueL n E))) st
theorem len_law_covers : ∀ xs st Q, sp_law_covers xs st Q → xs.length = 2 := by rintro xs st Q ⟨n, E, rfl, _⟩; rfl
theorem sem_law_covers : ∀ xs st Q, sp_law_covers xs st Q → rd_law_covers sp_law_subsets { nx := fun _ st' => Fg Q (.d .none) st', rt := Fg Q } (startD 9 xs) st := by
  rintro xs st Q ⟨n, E, rfl, hn, hE, K⟩
  have e0 : startD 9 [I n, .d (.tuple (E.map fun p => TI (edg p)))] = [some (I n), some (.d (.tuple (E.map fun p => TI (edg p)))), none, none, none, none, none, none, none] := rfl
  rw [e0]
  unfold rd_law_covers
  refine seq fun N hN => ?_
  walk_at "D"
  refine ⟨by omega, by omega, ?_⟩
  rw [rng_dv]
  simp only [datas_map]
  refine ⟨_, rangeI n, rfl, rfl, by rw [List.length_map, List.length_range]; omega, fun x s1 le hr hx _ => ?_⟩
  obtain ⟨inv, hsrc, hinv⟩ := src_of2 hx
  simp only [seqSrc, titems, lsrc] at hsrc
  simp only [hsrc]
  have hS : (subsL (rangeI n)).length ≤ 128 := subs_len7 _ (by rw [List.length_map, List.length_range]; omega)
  refine ⟨by rw [List.length_map, List.length_map, sizeL]; omega, ?_⟩
  rw [List.map_map]
  refine comp_fmT _ (fun a => covB E a) (fun a => .d (TI a)) (hinv _ hx) _ _ ?_ ?_
  · intro a ha Q1 Q2 h
    walk_at "D"
    refine ⟨by rw [sizeL]; omega, ?_⟩
    rw [eg_dv]
    refine comp_fmT _ (fun p => !decide (p.1 ∈ a) && !decide (p.2 ∈ a)) (fun p => I 1) trivial _ _ ?_ ?_
    · intro p hp Q3 Q4 h2
      walk_at "D"
      by_cases c1 : p.1 ∈ a
      · simp only [c1, decide_true, Bool.not_true, Bool.false_and, Bool.false_eq_true, if_false] at h2 ⊢
        exact h2
      · simp only [c1, decide_false, Bool.not_false, Bool.true_and, if_true] at h2 ⊢
        walk_at "D"
        exact h2
    · rw [show ([] : List DV) ++ (E.filter fun p => !decide (p.1 ∈ a) && !decide (p.2 ∈ a)).map (fun p => I 1) = (((E.filter fun p => !decide (p.1 ∈ a) && !decide (p.2 ∈ a)).map fun _ => (1 : Int)).map .int).map .d by rw [List.nil_append, List.map_map, List.map_map]; rfl]
      walk_at "D"
      refine ⟨by decide, ?_⟩
      have e1 : decide (((E.filter fun p => !decide (p.1 ∈ a) && !decide (p.2 ∈ a)).map fun _ => (1 : Int)) = []) = covB E a := by
        rw [← cov_filter]
        congr 1
        rw [List.map_eq_nil_iff]
      rw [e1]
      exact h
  rw [show ([] : List DV) ++ ((subsL (rangeI n)).filter fun a => covB E a).map (fun a => DV.d (UC.TI a)) = ((covL n E).map UC.TI).map .d by rw [List.nil_append, List.map_map]; rfl]
  walk_at "D"
  refine hN _ _ ?_; clear hN N
  have hC : (covL n E).length ≤ 128 := Nat.le_trans (List.length_filter_le _ _) hS
  refine seq fun N hN => ?_
  walk_at "D"
  refine ⟨by decide, fun q hq => hN _ _ ?_⟩; clear hN N
  refine seq fun N hN => ?_
  walk_at "D"
  rw [TIs_dv]
  refine for_byT _ (fun i ε s => (∃ y4 y5 y6 y7 y8, ε = [some (I n), some (.d (.tuple (E.map fun p => TI (edg p)))), some (.d (LT (covL n E))), some (.r q), y4, y5, y6, y7, y8]) ∧ (∀ b, b ≠ q → s b = s1 b) ∧ s q = some (.lst (((((covL n E).take i).filter (fun a => decide ((covL n E).filter (fun b => decide (b ≠ a) && insB b a) = []))).map TI).map .d))) ⟨⟨_, _, _, _, _, rfl⟩, fun b hb => up_ne hb, up_same⟩ (fun _ _ _ _ => trivial) ?_ ?_
  · rintro i a ε s hi ⟨⟨y4, y5, y6, y7, y8, rfl⟩, fr, hq'⟩ L hL
    have hnx : ((covL n E).take (i + 1)).filter (fun a => decide ((covL n E).filter (fun b => decide (b ≠ a) && insB b a) = [])) = ((covL n E).take i).filter (fun a => decide ((covL n E).filter (fun b => decide (b ≠ a) && insB b a) = [])) ++ if decide ((covL n E).filter (fun b => decide (b ≠ a) && insB b a) = []) = true then [a] else [] := by
      rw [List.take_succ, hi, List.filter_append]
      congr 1
      show List.filter _ [a] = _
      rw [List.filter_cons, List.filter_nil]
    have hlen2 : (((covL n E).take i).filter (fun a => decide ((covL n E).filter (fun b => decide (b ≠ a) && insB b a) = []))).length ≤ 128 := by
      refine Nat.le_trans (List.length_filter_le _ _) ?_
      rw [List.length_take]
      omega
    generalize ((covL n E).take i).filter (fun a => decide ((covL n E).filter (fun b => decide (b ≠ a) && insB b a) = [])) = F1 at hq' hnx hlen2
    walk_at "D"
    refine ⟨by rw [sizeL]; omega, ?_⟩
    rw [TIs_dv]
    refine comp_fmT _ (fun b => decide (b ≠ a) && insB b a) (fun b => .d (TI b)) trivial _ _ ?_ ?_
    · intro b hb Q3 Q4 h2
      obtain ⟨b1, b2, _⟩ := mem_covL.mp hb
      have lb := asc_long b1 b2
      walk_at "D"
      by_cases c : b = a
      · simp only [c, decide_true, Bool.not_true, Bool.false_eq_true, if_false, ne_eq, not_true_eq_false, decide_false, Bool.false_and] at h2 ⊢
        exact h2
      · simp only [c, decide_false, Bool.not_false, if_true, ne_eq, not_false_eq_true, decide_true, Bool.true_and] at h2 ⊢
        walk_at "D"
        refine ⟨by rw [sizeL]; omega, ?_⟩
        rw [List.map_map]
        refine comp_fmT _ (fun x => !decide (x ∈ a)) (fun x => I x) trivial _ _ ?_ ?_
        · intro x hx Q5 Q6 h3
          walk_at "D"
          exact h3
        · have e2 : ([] : List DV) ++ (b.filter fun x => !decide (x ∈ a)).map (fun x => I x) = ((dif b a).map .int).map .d := by
            rw [List.nil_append, List.map_map]
            rfl
          rw [e2]
          walk_at "D"
          refine ⟨by decide, ?_⟩
          have e3 : decide (dif b a = []) = insB b a := by
            rw [Bool.eq_iff_iff, decide_eq_true_eq, insB_iff, List.eq_nil_iff_forall_not_mem]
            refine ⟨fun h x hx => Classical.byContradiction fun hn => h x (mem_dif.mpr ⟨hx, hn⟩), fun h x hx => (mem_dif.mp hx).2 (h x (mem_dif.mp hx).1)⟩
          rw [e3]
          exact h2
    · have e1 : ([] : List DV) ++ ((covL n E).filter fun b => decide (b ≠ a) && insB b a).map (fun b => DV.d (TI b)) = ((((covL n E).filter fun b => decide (b ≠ a) && insB b a)).map TI).map .d := by
        rw [List.nil_append, List.map_map]
        rfl
      rw [e1]
      walk_at "D"
      refine ⟨by decide, ?_⟩
      by_cases c : (covL n E).filter (fun b => decide (b ≠ a) && insB b a) = []
      · rw [decide_eq_true c, if_pos rfl] at hnx
        rw [decide_eq_true c]
        walk_at "D"
        refine ⟨⟨_, hq'⟩, _, hq', by simp only [List.length_map, sizeL]; omega, hL _ _ ⟨⟨_, _, _, _, _, rfl⟩, fun b hb => by rw [up_ne hb]; exact fr b hb, ?_⟩⟩
        rw [up_same, hnx, List.map_append, List.map_append]
        rfl
      · rw [decide_eq_false c, if_neg Bool.false_ne_true, List.append_nil] at hnx
        rw [decide_eq_false c]
        walk_at "D"
        refine hL _ _ ⟨⟨_, _, _, _, _, rfl⟩, fr, ?_⟩
        rw [hnx]
        exact hq'
  · rintro ε s ⟨⟨y4, y5, y6, y7, y8, rfl⟩, fr, hq'⟩
    refine hN _ _ ?_
    rw [List.take_length] at hq'
    have hq2 : s q = some (.lst (((mcL n E).map TI).map .d)) := hq'
    have hM : (mcL n E).length ≤ 128 := Nat.le_trans (List.length_filter_le _ _) hC
    walk_at "D"
    simp only [hq2]
    walk_at "D"
    refine ⟨alikeC _, sortXC _, by omega, depthC, ?_⟩
    rw [sortC (nodup_mc n E)]
    walk_at "D"
    refine fg_le (fun a m e => ?_) K
    have h1 := le a m e
    have : a ≠ q := fun z => by rw [z, hq] at h1; cases h1
    rw [fr a this]
    exact h1
theorem fold_min_is {L : List Int} {m : Int} (h1 : m ∈ L) (h2 : ∀ x ∈ L, m ≤ x) : ∃ y r, L = y :: r ∧ r.foldl min y = m := by
  cases L with
  | nil => cases h1
  | cons y r =>
    refine ⟨y, r, rfl, ?_⟩
    obtain ⟨a1, a2, a3⟩ := foldl_min_spec r y
    have b1 : m ≤ r.foldl min y := by
      rcases a1 with z | z
      · rw [z]
        exact h2 y List.mem_cons_self
      · exact h2 _ (List.mem_cons_of_mem _ z)
    rcases List.mem_cons.mp h1 with z | z
    · omega
    · have := a3 m z
      omega
theorem cv_is {n : Nat} {E : List (Int × Int)} (h : GrOk n E) : cvG n E = compF n (egG n E) := (compF_eg h).symm
theorem nodup_mcx {n : Nat} {E : List (Int × Int)} {L : List (List Int)} (nd : L.Nodup) (hL : ∀ c ∈ L, c ∈ mcL n E) : (L.map (xV n)).Nodup := nodup_map_of nd fun a ha b hb e => by
  have h1 := mc_cov (hL a ha)
  have h2 := mc_cov (hL b hb)
  exact xV_inj h1.1 h1.2.1 h2.1 h2.2.1 e
theorem len_due (n : Nat) (E : List (Int × Int)) : (dueL n E).length = (mcL n E).length := sortU_length (nodup_mc n E)
theorem len_cv (n : Nat) (E : List (Int × Int)) : (cvG n E).length = (mcL n E).length := by
  unfold cvG
  rw [sortU_length (nodup_mcx (nodup_mc n E) fun c h => h), List.length_map]
theorem sort_due (n : Nat) (E : List (Int × Int)) : sortU ((dueL n E).map (xV n)) = cvG n E := sortU_eq (ris_sortU _) fun x => by
  unfold cvG
  rw [mem_sortU, List.mem_map, List.mem_map]
  exact ⟨fun ⟨c, hc, e⟩ => ⟨c, mem_due.mp hc, e⟩, fun ⟨c, hc, e⟩ => ⟨c, mem_due.mpr hc, e⟩⟩
theorem nodup_due (n : Nat) (E : List (Int × Int)) : (dueL n E).Nodup := ris_nodup (ris_sortU _)
theorem sort_eg (n : Nat) (E : List (Int × Int)) : sortU (egL n E) = egG n E := rfl
theorem TIs_xVs (v : Nat) (b : List Int) : ([] : List DV) ++ (rangeI v).map (fun k => if k ∈ b then I 1 else I 0) = ((xV v b).map PyData.int).map DV.d := TIs_xV v b
def sp_law : SpD := fun xs st Q => ∃ ns : List Int, xs = [.d (.list (ns.map .int))] ∧ ns.length ≤ 63 ∧ ∀ st', Q (Bo true) st'
theorem len_law : ∀ xs st Q, sp_law xs st Q → xs.length = 1 := by rintro xs st Q ⟨ns, rfl, _⟩; rfl
theorem law_true : ∀ ns : List Int, ns.length ≤ 63 → sp_law [.d (.list (ns.map .int))] (fun _ => none) (fun x _ => x = .d (.bool true)) := fun ns h => ⟨ns, rfl, h, fun _ => rfl⟩
theorem sem_law : ∀ xs st Q, sp_law xs st Q → rd_law sp_law_begun sp_law_graph sp_edge_ideal sp_law_covers sp_primes sp_minimal_primes sp_cover_ideal sp_dual_of sp_dimension sp_least_cover sp_components { nx := fun _ st' => Fg Q (.d .none) st', rt := Fg Q } (startD 13 xs) st := by
  rintro xs st Q ⟨ns, rfl, hns, K⟩
  have e0 : startD 13 [.d (.list (ns.map .int))] = [some (.d (.list (ns.map .int))), none, none, none, none, none, none, none, none, none, none, none, none] := rfl
  rw [e0]
  unfold rd_law
  have ss : ∀ {n : Nat}, n ≤ 3000 → n ≤ sizeLine := fun h => by rw [sizeL]; omega
  refine seq fun N0 hN0 => ?_
  walk_at "D"
  obtain ⟨t, ht, ht2⟩ := turns ns.length 2 4 (by decide) (by decide)
  simp only [ht]
  refine ⟨by omega, by omega, ?_⟩
  walk_at "D"
  refine for_byT _ (fun _ ε s => ∃ x1 x2 x3 x4 x5 x6 x7 x8 x9, ε = [some (.d (.list (ns.map .int))), x1, x2, x3, x4, x5, x6, x7, x8, x9, none, none, none]) ⟨_, _, _, _, _, _, _, _, _, rfl⟩ (fun _ _ _ _ => trivial) ?_ ?_
  rotate_left
  · rintro ε s ⟨x1, x2, x3, x4, x5, x6, x7, x8, x9, rfl⟩
    refine hN0 _ _ ?_
    walk_at "D"
    exact fg_ret (K _)
  clear hN0
  rintro i k ε s hk ⟨x1, x2, x3, x4, x5, x6, x7, x8, x9, rfl⟩ L hL
  obtain ⟨rfl, hi⟩ := range_some hk
  walk_at "D"
  refine seq fun N hN => ?_
  walk_at "D"
  refine begun hns (by omega) (by omega) fun m s1 D1 _ => ?_
  refine hN _ _ ?_; clear hN N
  refine seq fun N hN => ?_
  walk_at "D"
  refine ⟨m, _, rfl, by omega, D1, fun n E s2 n2 n6 hG hE D2 => ?_⟩
  refine hN _ _ ?_; clear hN N
  refine seq fun N hN => ?_
  walk_at "D"
  refine hN _ _ ?_; clear hN N
  have n1 : 1 ≤ n := by omega
  have lG : (egG n E).length ≤ 10 := Nat.le_trans (sortU_len _) (by unfold egL; rw [List.length_map]; exact hE)
  have ok : OkC n 1 (egG n E) := ⟨n1, by omega, by
    have : (1 + 1) ^ n ≤ 2 ^ 6 := Nat.pow_le_pow_right (by decide) n6
    have : (1 + 1) ^ n * (n + 1) ≤ 2 ^ 6 * 7 := Nat.mul_le_mul this (by omega)
    omega, fun g hg => mon_unit (unit_egG g hg)⟩
  have okV : OkC n 1 (cvG n E) := ⟨n1, by omega, by
    have : (1 + 1) ^ n ≤ 2 ^ 6 := Nat.pow_le_pow_right (by decide) n6
    have : (1 + 1) ^ n * (n + 1) ≤ 2 ^ 6 * 7 := Nat.mul_le_mul this (by omega)
    omega, fun g hg => mon_unit (unit_cvG g hg)⟩
  have cC : (compF n (egG n E)).length ≤ 32 := Nat.le_trans (comp_anti_len n1 ok.2.2.2) (Nat.le_trans (Nat.pow_le_pow_right (by decide) (show n - 1 ≤ 5 by omega)) (by decide))
  have lV : (cvG n E).length ≤ 32 := by rw [cv_is hG]; exact cC
  have lD : (dueL n E).length ≤ 32 := by rw [len_due, ← len_cv]; exact lV
  refine seq fun N hN => ?_
  walk_at "D"
  refine ⟨n, E, rfl, n1, by omega, by omega, hG, ?_⟩
  walk_at "D"
  refine ⟨by decide, by simp, by omega, by omega, by decide, hN _ _ ?_⟩; clear hN N
  refine seq fun N hN => ?_
  walk_at "D"
  refine ⟨n, E, rfl, n6, by omega, hN _ _ ?_⟩; clear hN N
  refine seq fun N hN => ?_
  walk_at "D"
  refine ⟨egG n E, n, 1, rfl, ok, by omega, lG, ?_⟩
  rw [show primesL n (egG n E) = dueL n E from primes_eg hG]
  walk_at "D"
  refine ⟨egG n E, n, 1, rfl, ok, by omega, lG, ?_⟩
  rw [primes_eg hG, minP_due]
  walk_at "D"
  refine hN _ _ ?_; clear hN N
  refine seq fun N hN => ?_
  walk_at "D"
  refine ⟨n, E, rfl, n1, n6, by omega, hG, by omega, ?_⟩
  refine ⟨egG n E, List.replicate n 1, n, 1, rfl, ok, by omega, lG, ?_, fun g hg => bel_unit (unit_egG g hg), by omega, ?_⟩
  · exact ⟨List.length_replicate .., fun x hx => by rw [(List.mem_replicate.mp hx).2]; decide⟩
  rw [dual_eg hG]
  walk_at "D"
  refine hN _ _ ?_; clear hN N
  refine seq fun N hN => ?_
  walk_at "D"
  refine ⟨n, E, rfl, n1, n6, by omega, hG, by omega, ?_⟩
  walk_at "D"
  try simp only [atI_1]
  walk_at "D"
  refine ⟨ss (by omega), ?_⟩
  rw [List.map_map]
  refine comp_mapT _ (fun c => .d (TI (xV n c))) trivial _ _ ?_ ?_
  · intro c hc Q1 h
    walk_at "D"
    refine ⟨by omega, by omega, by rw [List.length_range]; exact ss (by omega), ?_⟩
    rw [show (List.range n).map (fun (j : Nat) => DV.d (.int (j : Int))) = (rangeI n).map fun k => I k by unfold rangeI; rw [List.map_map]; rfl]
    refine comp_mapT _ (fun k => if k ∈ c then I 1 else I 0) trivial _ _ ?_ ?_
    · intro y hy Q2 h2
      walk_at "D"
      by_cases c : y ∈ c
      · simp only [c, decide_true, if_true] at h2 ⊢
        exact h2
      · simp only [c, decide_false, Bool.false_eq_true, if_false] at h2 ⊢
        exact h2
    · rw [TIs_xVs]
      walk_at "D"
      exact h
  rw [show ([] : List DV) ++ (dueL n E).map (fun c => DV.d (TI (xV n c))) = (((dueL n E).map (xV n)).map TI).map .d by rw [List.nil_append, List.map_map, List.map_map]; rfl]
  walk_at "D"
  refine ⟨alikeC _, sortXC _, by omega, depthC, ?_⟩
  rw [sortC (nodup_mcx (nodup_due n E) fun c hc => mem_due.mp hc), sort_due]
  walk_at "D"
  refine hN _ _ ?_; clear hN N
  refine seq fun N hN => ?_
  walk_at "D"
  refine ⟨egG n E, n, 1, rfl, ok, by omega, lG, fun e => ?_, fun w hne hm => ?_⟩
  · obtain ⟨d, hd⟩ := List.exists_mem_of_ne_nil _ (due_ne hG)
    have := (mem_compF_eg hG).mpr ⟨d, mem_due.mp hd, rfl⟩
    rw [e] at this
    cases this
  obtain ⟨⟨d, hd, hdw⟩, hall⟩ := dim_eg hG hm
  have lw : ∀ c, c ∈ covL n E → (∀ d ∈ covL n E, c.length ≤ d.length) → c.length = w := fun c hc hmin => by
    have h1 := hmin d (mem_minC.mp hd).1
    have h2 := hall c hc
    omega
  refine ⟨n, E, rfl, n6, by omega, hG, fun c hc hmin => ?_⟩
  have lc := lw c hc hmin
  walk_at "D"
  simp only [lc]
  walk_at "D"
  refine ⟨n, E, rfl, n6, by omega, hG, fun c' hc' hmin' => ?_⟩
  have lc' := lw c' hc' hmin'
  walk_at "D"
  simp only [lc']
  refine ⟨ss (by omega), ?_⟩
  rw [List.map_map]
  refine comp_mapT _ (fun (c : List Int) => I (c.length : Int)) trivial _ _ ?_ ?_
  · intro c hc Q1 h
    walk_at "D"
    exact h
  rw [show ([] : List DV) ++ (dueL n E).map (fun (c : List Int) => I (c.length : Int)) = (((dueL n E).map fun (c : List Int) => (c.length : Int)).map .int).map .d by rw [List.nil_append, List.map_map, List.map_map]; rfl]
  obtain ⟨y, r, ey, er⟩ := fold_min_is (L := (dueL n E).map fun (c : List Int) => (c.length : Int)) (m := (w : Int)) (List.mem_map.mpr ⟨d, mem_due.mpr hd, by rw [hdw]⟩) fun x hx => by
    obtain ⟨c, hc, rfl⟩ := List.mem_map.mp hx
    have := hall c (mem_minC.mp (mem_due.mp hc)).1
    omega
  rw [ey]
  walk_at "D"
  have e1 : dints (DV.d (.int y) :: List.map DV.d (List.map PyData.int r)) = some (y :: r) := dints_map2 (y :: r)
  simp only [e1, er]
  walk_at "D"
  refine hN _ _ ?_; clear hN N
  walk_at "D"
  have done : ∀ x9, L [some (.d (.list (ns.map .int))), some (I (k : Int)), some (.r m), some (.d (grD n E)), some (I n), some (.d (.tuple (E.map fun p => TI (edg p)))), some (.d (idl n (egG n E))), some (.d (TI (List.replicate n 1))), some (.d (TT (dueL n E))), x9, none, none, none] s2 := fun x9 => hL _ _ ⟨_, _, _, _, _, _, _, _, _, rfl⟩
  have hsh : SeqAt.shaped (PyData.tuple (E.map fun p => UC.TI (edg p))) = true := by
    rw [show PyData.tuple (E.map fun p => UC.TI (edg p)) = UC.TT (E.map edg) by
      show PyData.tuple (E.map fun p => UC.TI (edg p)) = .tuple ((E.map edg).map UC.TI)
      rw [List.map_map]
      rfl]
    exact shaped_TT
  refine ⟨by decide, hsh, ?_⟩
  by_cases cE : E = []
  · simp only [cE, decide_true, Bool.not_true, Bool.false_eq_true, if_false]
    rw [cE] at done
    exact done _
  simp only [cE, decide_false, Bool.not_false, if_true]
  by_cases cD : ((dueL n E).length : Int) ≤ 10
  · simp only [cD, decide_true, if_true]
    have lV10 : (cvG n E).length ≤ 10 := by
      rw [len_cv, ← len_due]
      omega
    refine seq fun N hN => ?_
    walk_at "D"
    refine ⟨ss (by omega), ?_⟩
    rw [List.map_map]
    refine comp_mapT _ (fun p => .d (TI (xV n (edg p)))) trivial _ _ ?_ ?_
    · intro p hp Q1 h
      walk_at "D"
      refine ⟨by omega, by omega, by rw [List.length_range]; exact ss (by omega), ?_⟩
      rw [show (List.range n).map (fun (j : Nat) => DV.d (.int (j : Int))) = (rangeI n).map fun k => I k by unfold rangeI; rw [List.map_map]; rfl]
      refine comp_mapT _ (fun k => if k ∈ edg p then I 1 else I 0) trivial _ _ ?_ ?_
      · intro y hy Q2 h2
        walk_at "D"
        by_cases c : y ∈ edg p
        · simp only [c, decide_true, if_true] at h2 ⊢
          exact h2
        · simp only [c, decide_false, Bool.false_eq_true, if_false] at h2 ⊢
          exact h2
      · rw [TIs_xVs]
        walk_at "D"
        exact h
    rw [show ([] : List DV) ++ E.map (fun p => DV.d (TI (xV n (edg p)))) = ((egL n E).map TI).map .d by unfold egL; rw [List.nil_append, List.map_map, List.map_map]; rfl]
    walk_at "D"
    refine hN _ _ ?_; clear hN N
    have lE : (egL n E).length = E.length := List.length_map ..
    walk_at "D"
    refine ⟨n, E, rfl, n1, n6, by omega, hG, by omega, ?_⟩
    refine ⟨cvG n E, n, 1, rfl, okV, by omega, lV10, ?_⟩
    rw [comp_cv hG]
    walk_at "D"
    refine ⟨alikeC _, sortXC _, by omega, depthC, ?_⟩
    rw [sortC (nodup_egL hG), sort_eg]
    walk_at "D"
    exact done _
  · simp only [cD, decide_false, Bool.false_eq_true, if_false]
    exact done _
end U
end
section
set_option Elab.async false
set_option linter.all false
set_option pp.maxSteps 200
set_option maxRecDepth 100000
namespace GD
open PySem L2 DL RD
section
variable {P : Program} {w : World} {K : PySem.W.Frag} {mg : Str → Option Value} {base : Heap}
def top (i : Nat) : Stmt := PySem.Challenge.pw_jointneeds_k25_whole_covers_and_duals.main.body.getD i (.Pass ⟨0, 0, 0, 0⟩)
structure Tx (mg : Str → Option Value) : Prop where
  b_all : mg "all" = none
  b_any : mg "any" = none
  b_enumerate : mg "enumerate" = none
  b_int : mg "int" = none
  b_len : mg "len" = none
  b_list : mg "list" = none
  b_max : mg "max" = none
  b_min : mg "min" = none
  b_range : mg "range" = none
  b_set : mg "set" = none
  b_sorted : mg "sorted" = none
  b_tuple : mg "tuple" = none
  b_zip : mg "zip" = none
  c_MOST_EXPONENT : ∃ t, mg "MOST_EXPONENT" = some (.int 60 t)
  c_MOST_GENERATORS : ∃ t, mg "MOST_GENERATORS" = some (.int 60 t)
  c_SMALL_GENERATORS : ∃ t, mg "SMALL_GENERATORS" = some (.int 10 t)
  c_SMALL_VARIABLES : ∃ t, mg "SMALL_VARIABLES" = some (.int 8 t)
  m_combinations : mg "combinations" = some (.type "itertools.combinations")
abbrev s_law_begun : Stmt := top 41
abbrev N_law_begun : List Str := ["script", "k", "cells", "great", "seed", "cell"]
theorem S_law_begun : FnScope N_law_begun ["script", "k"] (defScope s_law_begun) := ⟨rfl, rfl, rfl, by decide +kernel, rfl, by decide +kernel, by decide +kernel⟩
theorem v_law_begun_0 : visB N_law_begun (defScope s_law_begun) 0 "script" = true := by decide +kernel
theorem v_law_begun_1 : visB N_law_begun (defScope s_law_begun) 1 "k" = true := by decide +kernel
theorem v_law_begun_2 : visB N_law_begun (defScope s_law_begun) 2 "cells" = true := by decide +kernel
theorem l_law_begun_2 : locB N_law_begun (defScope s_law_begun) (defScope s_law_begun) 2 "cells" = true := by decide +kernel
theorem v_law_begun_3 : visB N_law_begun (defScope s_law_begun) 3 "great" = true := by decide +kernel
theorem v_law_begun_4 : visB N_law_begun (defScope s_law_begun) 4 "seed" = true := by decide +kernel
theorem l_law_begun_4 : locB N_law_begun (defScope s_law_begun) (defScope s_law_begun) 4 "seed" = true := by decide +kernel
theorem v_law_begun_5 : visB N_law_begun (defScope s_law_begun) 5 "cell" = true := by decide +kernel
theorem l_law_begun_5 : locB N_law_begun (defScope s_law_begun) (defScope s_law_begun) 5 "cell" = true := by decide +kernel
theorem g_law_begun_int : glB (defScope s_law_begun) "int" = true := by decide +kernel
set_option maxHeartbeats 4000000 in
theorem d_law_begun  (T : Tx mg)  : ∀ X, Cok P w K mg base X N_law_begun (defScope s_law_begun) (defScope s_law_begun) 0 → DSs X (defBody s_law_begun) (rd_law_begun) := fun X c =>
  (ds_cons (ds_asg c (de_bin (op_qAdd false) (de_sl false (de_var c v_law_begun_0) (do_some (de_var c v_law_begun_1)) do_none) (de_sl false (de_var c v_law_begun_0) do_none (do_some (de_var c v_law_begun_1)))) (dg_name c l_law_begun_2) rfl rfl)
  (ds_cons (ds_setLc (i := 3) false [("cell", 5)] c (by decide +kernel) (by kernel_rfl) (by decide +kernel) (by decide) (di_seq (de_var c v_law_begun_2)) (fun _ c1 => (dg_name c1 (by decide +kernel))) (fun _ c1 => (dts_one (dt_cp op_qGe rfl (de_var c1 (by decide +kernel)) (de_bin op_qPow de_int de_int)))) (fun _ c1 => (de_var c1 (by decide +kernel))))
  (ds_cons (ds_asg c (de_bin (op_qAdd false) de_int (de_var c v_law_begun_1)) (dg_name c l_law_begun_4) rfl rfl)
  (ds_cons (ds_for c (di_seq (de_var c v_law_begun_2)) (dg_name c l_law_begun_5) (ds_one (ds_asg c (de_bin op_qMod (de_ct c g_law_begun_int T.b_int bt_int c_int (da_cons (de_bin (op_qAdd false) (de_bin (op_qMul false) (de_var c v_law_begun_4) de_int) (de_var c v_law_begun_5)) da_nil)) de_int) (dg_name c l_law_begun_4) rfl rfl)))
  (ds_one (ds_ret (de_disp (dps_cons (de_if (dt_cp (op_qNe c.hu64) rfl (de_var c v_law_begun_3) (de_lst false da_nil)) (de_ix (de_var c v_law_begun_3) de_int (fun _ _ => rfl)) de_int) (dps_cons (de_var c v_law_begun_4) (dps_cons (de_bin (op_qAdd false) (de_var c v_law_begun_2) (de_lst false (da_cons (de_bin (op_qAdd false) (de_bin (op_qMul false) de_int (de_var c v_law_begun_1)) de_int) da_nil))) (dps_cons de_int dps_nil)))) rfl rfl (fun z => by cases z) (by decide))))))))
theorem o_law_begun  (T : Tx mg)  {f : Addr} {fd : FuncData} {sp : SpD} (Fu : Fun K "_law_begun" "_law_begun" s_law_begun f fd) (hm : mg "_law_begun" = some (.ref f)) (len : ∀ xs st Q, sp xs st Q → xs.length = 2) (sem : ∀ xs st Q, sp xs st Q → rd_law_begun { nx := fun _ st' => Fg Q (.d .none) st', rt := Fg Q } (startD 6 xs) st) : Cl P w K mg base "_law_begun" 1 sp :=
  ⟨f, fd, ["script", "k"], hm, Fu.kp, fn_ok Fu S_law_begun len (d_law_begun T ) sem, Fu.binds fun _ _ _ _ _ _ us hl => match us, hl with | [_, _], _ => rfl⟩
abbrev s_law_draw : Stmt := top 42
abbrev N_law_draw : List Str := ["m", "below", "found", "spot", "cells", "extra", "cell", "blend"]
theorem S_law_draw : FnScope N_law_draw ["m", "below"] (defScope s_law_draw) := ⟨rfl, rfl, rfl, by decide +kernel, rfl, by decide +kernel, by decide +kernel⟩
theorem v_law_draw_0 : visB N_law_draw (defScope s_law_draw) 0 "m" = true := by decide +kernel
theorem v_law_draw_1 : visB N_law_draw (defScope s_law_draw) 1 "below" = true := by decide +kernel
theorem v_law_draw_2 : visB N_law_draw (defScope s_law_draw) 2 "found" = true := by decide +kernel
theorem l_law_draw_2 : locB N_law_draw (defScope s_law_draw) (defScope s_law_draw) 2 "found" = true := by decide +kernel
theorem v_law_draw_3 : visB N_law_draw (defScope s_law_draw) 3 "spot" = true := by decide +kernel
theorem l_law_draw_3 : locB N_law_draw (defScope s_law_draw) (defScope s_law_draw) 3 "spot" = true := by decide +kernel
theorem v_law_draw_4 : visB N_law_draw (defScope s_law_draw) 4 "cells" = true := by decide +kernel
theorem v_law_draw_5 : visB N_law_draw (defScope s_law_draw) 5 "extra" = true := by decide +kernel
theorem v_law_draw_6 : visB N_law_draw (defScope s_law_draw) 6 "cell" = true := by decide +kernel
theorem l_law_draw_6 : locB N_law_draw (defScope s_law_draw) (defScope s_law_draw) 6 "cell" = true := by decide +kernel
theorem v_law_draw_7 : visB N_law_draw (defScope s_law_draw) 7 "blend" = true := by decide +kernel
theorem l_law_draw_7 : locB N_law_draw (defScope s_law_draw) (defScope s_law_draw) 7 "blend" = true := by decide +kernel
theorem g_law_draw_int : glB (defScope s_law_draw) "int" = true := by decide +kernel
theorem g_law_draw_len : glB (defScope s_law_draw) "len" = true := by decide +kernel
set_option maxHeartbeats 4000000 in
theorem d_law_draw  (T : Tx mg)  : ∀ X, Cok P w K mg base X N_law_draw (defScope s_law_draw) (defScope s_law_draw) 0 → DSs X (defBody s_law_draw) (rd_law_draw) := fun X c =>
  (ds_cons (ds_if (dt_cp op_qGt rfl (de_dget c (de_var c v_law_draw_0) de_str (fun _ _ => rfl)) de_int) (ds_cons (ds_asg c (de_bin op_qMod (de_ct c g_law_draw_int T.b_int bt_int c_int (da_cons (de_dget c (de_var c v_law_draw_0) de_str (fun _ _ => rfl)) da_nil)) (de_var c v_law_draw_1)) (dg_name c l_law_draw_2) rfl rfl)
      (ds_cons (ds_dput c (de_var c v_law_draw_0) de_str (de_bin op_qFdiv (de_dget c (de_var c v_law_draw_0) de_str (fun _ _ => rfl)) (de_var c v_law_draw_1)) rfl)
      (ds_one (ds_ret (de_var c v_law_draw_2))))) ds_nil)
  (ds_cons (ds_asg c (de_dget c (de_var c v_law_draw_0) de_str (fun _ _ => rfl)) (dg_name c l_law_draw_3) rfl rfl)
  (ds_cons (ds_dput c (de_var c v_law_draw_0) de_str (de_bin (op_qAdd false) (de_var c v_law_draw_3) de_int) rfl)
  (ds_cons (ds_par (i := 4) (j := 5) c (by decide +kernel) (da_cons (de_dget c (de_var c v_law_draw_0) de_str (fun _ _ => rfl)) (da_cons (de_bin (op_qAdd false) (de_dget c (de_var c v_law_draw_0) de_str (fun _ _ => rfl)) (de_bin (op_qMul false) (de_bin (op_qMul false) de_int (de_var c v_law_draw_3)) (de_var c v_law_draw_3))) da_nil)) (by kernel_rfl))
  (ds_cons (ds_asg c (de_ix (de_var c v_law_draw_4) (de_bin op_qMod (de_ct c g_law_draw_int T.b_int bt_int c_int (da_cons (de_var c v_law_draw_3) da_nil)) (de_cb c g_law_draw_len T.b_len bb_len c_len (da_cons (de_var c v_law_draw_4) da_nil))) (fun _ _ => rfl)) (dg_name c l_law_draw_6) rfl rfl)
  (ds_cons (ds_asg c (de_bin op_qMod (de_ct c g_law_draw_int T.b_int bt_int c_int (da_cons (de_bin (op_qAdd false) (de_bin (op_qMul false) (de_var c v_law_draw_6) (de_bin (op_qAdd false) (de_bin (op_qMul false) de_int (de_var c v_law_draw_3)) de_int)) (de_var c v_law_draw_5)) da_nil)) de_int) (dg_name c l_law_draw_7) rfl rfl)
  (ds_cons (ds_asg c (de_bin op_qMod (de_ct c g_law_draw_int T.b_int bt_int c_int (da_cons (de_bin (op_qAdd false) (de_bin (op_qAdd false) (de_bin (op_qMul false) (de_var c v_law_draw_7) (de_var c v_law_draw_7)) (de_bin (op_qMul false) de_int (de_var c v_law_draw_3))) (de_dget c (de_var c v_law_draw_0) de_str (fun _ _ => rfl))) da_nil)) de_int) (dg_name c l_law_draw_7) rfl rfl)
  (ds_one (ds_ret (de_bin op_qMod (de_bin op_qFdiv (de_bin op_qMod (de_ct c g_law_draw_int T.b_int bt_int c_int (da_cons (de_bin (op_qAdd false) (de_bin (op_qMul false) (de_var c v_law_draw_7) de_int) (de_var c v_law_draw_3)) da_nil)) de_int) de_int) (de_var c v_law_draw_1)))))))))))
theorem o_law_draw  (T : Tx mg)  {f : Addr} {fd : FuncData} {sp : SpD} (Fu : Fun K "_law_draw" "_law_draw" s_law_draw f fd) (hm : mg "_law_draw" = some (.ref f)) (len : ∀ xs st Q, sp xs st Q → xs.length = 2) (sem : ∀ xs st Q, sp xs st Q → rd_law_draw { nx := fun _ st' => Fg Q (.d .none) st', rt := Fg Q } (startD 8 xs) st) : Cl P w K mg base "_law_draw" 1 sp :=
  ⟨f, fd, ["m", "below"], hm, Fu.kp, fn_ok Fu S_law_draw len (d_law_draw T ) sem, Fu.binds fun _ _ _ _ _ _ us hl => match us, hl with | [_, _], _ => rfl⟩
abbrev s_law_graph : Stmt := top 44
abbrev N_law_graph : List Str := ["m", "n", "edges", "a", "b"]
theorem S_law_graph : FnScope N_law_graph ["m"] (defScope s_law_graph) := ⟨rfl, rfl, rfl, by decide +kernel, rfl, by decide +kernel, by decide +kernel⟩
theorem v_law_graph_0 : visB N_law_graph (defScope s_law_graph) 0 "m" = true := by decide +kernel
theorem v_law_graph_1 : visB N_law_graph (defScope s_law_graph) 1 "n" = true := by decide +kernel
theorem l_law_graph_1 : locB N_law_graph (defScope s_law_graph) (defScope s_law_graph) 1 "n" = true := by decide +kernel
theorem v_law_graph_2 : visB N_law_graph (defScope s_law_graph) 2 "edges" = true := by decide +kernel
theorem l_law_graph_2 : locB N_law_graph (defScope s_law_graph) (defScope s_law_graph) 2 "edges" = true := by decide +kernel
theorem v_law_graph_3 : visB N_law_graph (defScope s_law_graph) 3 "a" = true := by decide +kernel
theorem l_law_graph_3 : locB N_law_graph (defScope s_law_graph) (defScope s_law_graph) 3 "a" = true := by decide +kernel
theorem v_law_graph_4 : visB N_law_graph (defScope s_law_graph) 4 "b" = true := by decide +kernel
theorem l_law_graph_4 : locB N_law_graph (defScope s_law_graph) (defScope s_law_graph) 4 "b" = true := by decide +kernel
theorem g_law_graph_law_draw : glB (defScope s_law_graph) "_law_draw" = true := by decide +kernel
theorem g_law_graph_range : glB (defScope s_law_graph) "range" = true := by decide +kernel
theorem g_law_graph_len : glB (defScope s_law_graph) "len" = true := by decide +kernel
theorem g_law_graph_tuple : glB (defScope s_law_graph) "tuple" = true := by decide +kernel
set_option maxHeartbeats 4000000 in
theorem d_law_graph {sp_law_draw : SpD} (T : Tx mg) (C_law_draw : Cl P w K mg base "_law_draw" 1 sp_law_draw) : ∀ X, Cok P w K mg base X N_law_graph (defScope s_law_graph) (defScope s_law_graph) 1 → DSs X (defBody s_law_graph) (rd_law_graph sp_law_draw) := fun X c =>
  (ds_cons (ds_asg c (de_bin (op_qAdd false) de_int (de_callC c g_law_graph_law_draw C_law_draw (by decide) (da_cons (de_var c v_law_graph_0) (da_cons de_int da_nil)))) (dg_name c l_law_graph_1) rfl rfl)
  (ds_cons (ds_asg c (de_lst true da_nil) (dg_name c l_law_graph_2) rfl rfl)
  (ds_cons (ds_for c (di_rng1 c g_law_graph_range T.b_range (da_cons (de_var c v_law_graph_1) da_nil)) (dg_name c l_law_graph_3) (ds_one (ds_for c (di_rng2 c g_law_graph_range T.b_range (da_cons (de_bin (op_qAdd false) (de_var c v_law_graph_3) de_int) (da_cons (de_var c v_law_graph_1) da_nil))) (dg_name c l_law_graph_4) (ds_one (ds_if (DW.pt (dw_and (dt_cp op_qGt rfl (de_callC c g_law_graph_law_draw C_law_draw (by decide) (da_cons (de_var c v_law_graph_0) (da_cons de_int da_nil))) de_int) (dw_and1 (dt_cp (op_qLt c.hu0) rfl (de_cb c g_law_graph_len T.b_len bb_len c_len (da_cons (de_var c v_law_graph_2) da_nil)) de_int)))) (ds_one (ds_expr (de_append (de_var c v_law_graph_2) (de_tup (da_cons (de_var c v_law_graph_3) (da_cons (de_var c v_law_graph_4) da_nil)))))) ds_nil)))))
  (ds_one (ds_ret (de_tup (da_cons (de_var c v_law_graph_1) (da_cons (de_if (dt_cp op_qGt rfl (de_callC c g_law_graph_law_draw C_law_draw (by decide) (da_cons (de_var c v_law_graph_0) (da_cons de_int da_nil))) de_int) (de_ct c g_law_graph_tuple T.b_tuple bt_tuple c_tuple (da_cons (de_var c v_law_graph_2) da_nil)) (de_tup da_nil)) da_nil))))))))
theorem o_law_graph {sp_law_draw : SpD} (T : Tx mg) (C_law_draw : Cl P w K mg base "_law_draw" 1 sp_law_draw) {f : Addr} {fd : FuncData} {sp : SpD} (Fu : Fun K "_law_graph" "_law_graph" s_law_graph f fd) (hm : mg "_law_graph" = some (.ref f)) (len : ∀ xs st Q, sp xs st Q → xs.length = 1) (sem : ∀ xs st Q, sp xs st Q → rd_law_graph sp_law_draw { nx := fun _ st' => Fg Q (.d .none) st', rt := Fg Q } (startD 5 xs) st) : Cl P w K mg base "_law_graph" 2 sp :=
  ⟨f, fd, ["m"], hm, Fu.kp, fn_ok Fu S_law_graph len (d_law_graph T C_law_draw) sem, Fu.binds fun _ _ _ _ _ _ us hl => match us, hl with | [_], _ => rfl⟩
abbrev s_law_subsets : Stmt := top 43
abbrev N_law_subsets : List Str := ["some", "found", "one", "a"]
theorem S_law_subsets : FnScope N_law_subsets ["some"] (defScope s_law_subsets) := ⟨rfl, rfl, rfl, by decide +kernel, rfl, by decide +kernel, by decide +kernel⟩
theorem v_law_subsets_0 : visB N_law_subsets (defScope s_law_subsets) 0 "some" = true := by decide +kernel
theorem v_law_subsets_1 : visB N_law_subsets (defScope s_law_subsets) 1 "found" = true := by decide +kernel
theorem l_law_subsets_1 : locB N_law_subsets (defScope s_law_subsets) (defScope s_law_subsets) 1 "found" = true := by decide +kernel
theorem l_law_subsets_2 : locB N_law_subsets (defScope s_law_subsets) (defScope s_law_subsets) 2 "one" = true := by decide +kernel
set_option maxHeartbeats 4000000 in
theorem d_law_subsets  (T : Tx mg)  : ∀ X, Cok P w K mg base X N_law_subsets (defScope s_law_subsets) (defScope s_law_subsets) 0 → DSs X (defBody s_law_subsets) (rd_law_subsets) := fun X c =>
  (ds_cons (ds_asg c (de_lst true (da_cons (de_tup da_nil) da_nil)) (dg_name c l_law_subsets_1) rfl rfl)
  (ds_cons (ds_for c (di_seq (de_var c v_law_subsets_0)) (dg_name c l_law_subsets_2) (ds_one (ds_expr (de_extend (de_var c v_law_subsets_1) (de_lc false [("a", 3)] c (by decide +kernel) (by decide) (di_seq (de_var c v_law_subsets_1)) (fun _ c1 => (dg_name c1 (by decide +kernel))) (fun _ c1 => dts_nil) (fun _ c1 => (de_bin (op_qAdd false) (de_var c1 (by decide +kernel)) (de_tup (da_cons (de_var c1 (by decide +kernel)) da_nil)))))))))
  (ds_one (ds_ret (de_var c v_law_subsets_1)))))
theorem o_law_subsets  (T : Tx mg)  {f : Addr} {fd : FuncData} {sp : SpD} (Fu : Fun K "_law_subsets" "_law_subsets" s_law_subsets f fd) (hm : mg "_law_subsets" = some (.ref f)) (len : ∀ xs st Q, sp xs st Q → xs.length = 1) (sem : ∀ xs st Q, sp xs st Q → rd_law_subsets { nx := fun _ st' => Fg Q (.d .none) st', rt := Fg Q } (startD 4 xs) st) : Cl P w K mg base "_law_subsets" 1 sp :=
  ⟨f, fd, ["some"], hm, Fu.kp, fn_ok Fu S_law_subsets len (d_law_subsets T ) sem, Fu.binds fun _ _ _ _ _ _ us hl => match us, hl with | [_], _ => rfl⟩
abbrev s_law_covers : Stmt := top 45
abbrev N_law_covers : List Str := ["n", "edges", "some", "found", "lot", "other", "a", "b", "x"]
theorem S_law_covers : FnScope N_law_covers ["n", "edges"] (defScope s_law_covers) := ⟨rfl, rfl, rfl, by decide +kernel, rfl, by decide +kernel, by decide +kernel⟩
theorem v_law_covers_0 : visB N_law_covers (defScope s_law_covers) 0 "n" = true := by decide +kernel
theorem v_law_covers_2 : visB N_law_covers (defScope s_law_covers) 2 "some" = true := by decide +kernel
theorem v_law_covers_3 : visB N_law_covers (defScope s_law_covers) 3 "found" = true := by decide +kernel
theorem l_law_covers_3 : locB N_law_covers (defScope s_law_covers) (defScope s_law_covers) 3 "found" = true := by decide +kernel
theorem v_law_covers_4 : visB N_law_covers (defScope s_law_covers) 4 "lot" = true := by decide +kernel
theorem l_law_covers_4 : locB N_law_covers (defScope s_law_covers) (defScope s_law_covers) 4 "lot" = true := by decide +kernel
theorem g_law_covers_list : glB (defScope s_law_covers) "list" = true := by decide +kernel
theorem g_law_covers_range : glB (defScope s_law_covers) "range" = true := by decide +kernel
theorem g_law_covers_law_subsets : glB (defScope s_law_covers) "_law_subsets" = true := by decide +kernel
theorem g_law_covers_sorted : glB (defScope s_law_covers) "sorted" = true := by decide +kernel
theorem g_law_covers_tuple : glB (defScope s_law_covers) "tuple" = true := by decide +kernel
set_option maxHeartbeats 4000000 in
theorem d_law_covers {sp_law_subsets : SpD} (T : Tx mg) (C_law_subsets : Cl P w K mg base "_law_subsets" 1 sp_law_subsets) : ∀ X, Cok P w K mg base X N_law_covers (defScope s_law_covers) (defScope s_law_covers) 1 → DSs X (defBody s_law_covers) (rd_law_covers sp_law_subsets) := fun X c =>
  (ds_cons (ds_setLc (i := 2) false [("lot", 4)] c (by decide +kernel) (by kernel_rfl) (by decide +kernel) (by decide) (di_seq (de_callC c g_law_covers_law_subsets C_law_subsets (by decide) (da_cons (de_listRg false c g_law_covers_list T.b_list g_law_covers_range T.b_range (de_var c v_law_covers_0)) da_nil))) (fun _ c1 => (dg_name c1 (by decide +kernel))) (fun _ c1 => (dts_one (dt_cp (op_qEq c1.hu64) rfl (de_lc false [("a", 6), ("b", 7)] c1 (by decide +kernel) (by decide) (di_seq (de_var c1 (by decide +kernel))) (fun _ c2 => (dg_tup c2 (dgs_cons (dg_name c2 (by decide +kernel)) (dgs_cons (dg_name c2 (by decide +kernel)) dgs_nil)))) (fun _ c2 => (dts_one (DW.pt (dw_and (dt_cp (op_qNotIn c2.hu65) rfl (de_var c2 (by decide +kernel)) (de_var c2 (by decide +kernel))) (dw_and1 (dt_cp (op_qNotIn c2.hu65) rfl (de_var c2 (by decide +kernel)) (de_var c2 (by decide +kernel)))))))) (fun _ c2 => de_int)) (de_lst false da_nil)))) (fun _ c1 => (de_var c1 (by decide +kernel))))
  (ds_cons (ds_asg c (de_lst true da_nil) (dg_name c l_law_covers_3) rfl rfl)
  (ds_cons (ds_for c (di_seq (de_var c v_law_covers_2)) (dg_name c l_law_covers_4) (ds_one (ds_if (dt_cp (op_qEq c.hu64) rfl (de_lc false [("other", 5)] c (by decide +kernel) (by decide) (di_seq (de_var c v_law_covers_2)) (fun _ c1 => (dg_name c1 (by decide +kernel))) (fun _ c1 => (dts_one (DW.pt (dw_and (dt_cp (op_qNe c1.hu64) rfl (de_var c1 (by decide +kernel)) (de_var c1 (by decide +kernel))) (dw_and1 (dt_cp (op_qEq c1.hu64) rfl (de_lc false [("x", 8)] c1 (by decide +kernel) (by decide) (di_seq (de_var c1 (by decide +kernel))) (fun _ c2 => (dg_name c2 (by decide +kernel))) (fun _ c2 => (dts_one (dt_cp (op_qNotIn c2.hu65) rfl (de_var c2 (by decide +kernel)) (de_var c2 (by decide +kernel))))) (fun _ c2 => (de_var c2 (by decide +kernel)))) (de_lst false da_nil))))))) (fun _ c1 => (de_var c1 (by decide +kernel)))) (de_lst false da_nil)) (ds_one (ds_expr (de_append (de_var c v_law_covers_3) (de_var c v_law_covers_4)))) ds_nil)))
  (ds_one (ds_ret (de_ct c g_law_covers_tuple T.b_tuple bt_tuple c_tuple (da_cons (de_sortD false c g_law_covers_sorted T.b_sorted (de_var c v_law_covers_3)) da_nil)))))))
theorem o_law_covers {sp_law_subsets : SpD} (T : Tx mg) (C_law_subsets : Cl P w K mg base "_law_subsets" 1 sp_law_subsets) {f : Addr} {fd : FuncData} {sp : SpD} (Fu : Fun K "_law_covers" "_law_covers" s_law_covers f fd) (hm : mg "_law_covers" = some (.ref f)) (len : ∀ xs st Q, sp xs st Q → xs.length = 2) (sem : ∀ xs st Q, sp xs st Q → rd_law_covers sp_law_subsets { nx := fun _ st' => Fg Q (.d .none) st', rt := Fg Q } (startD 9 xs) st) : Cl P w K mg base "_law_covers" 2 sp :=
  ⟨f, fd, ["n", "edges"], hm, Fu.kp, fn_ok Fu S_law_covers len (d_law_covers T C_law_subsets) sem, Fu.binds fun _ _ _ _ _ _ us hl => match us, hl with | [_, _], _ => rfl⟩
abbrev s_divides : Stmt := top 8
abbrev N_divides : List Str := ["a", "b", "one", "other"]
theorem S_divides : FnScope N_divides ["a", "b"] (defScope s_divides) := ⟨rfl, rfl, rfl, by decide +kernel, rfl, by decide +kernel, by decide +kernel⟩
theorem v_divides_0 : visB N_divides (defScope s_divides) 0 "a" = true := by decide +kernel
theorem v_divides_1 : visB N_divides (defScope s_divides) 1 "b" = true := by decide +kernel
theorem v_divides_2 : visB N_divides (defScope s_divides) 2 "one" = true := by decide +kernel
theorem l_divides_2 : locB N_divides (defScope s_divides) (defScope s_divides) 2 "one" = true := by decide +kernel
theorem v_divides_3 : visB N_divides (defScope s_divides) 3 "other" = true := by decide +kernel
theorem l_divides_3 : locB N_divides (defScope s_divides) (defScope s_divides) 3 "other" = true := by decide +kernel
theorem g_divides_zip : glB (defScope s_divides) "zip" = true := by decide +kernel
set_option maxHeartbeats 4000000 in
theorem d_divides  (T : Tx mg)  : ∀ X, Cok P w K mg base X N_divides (defScope s_divides) (defScope s_divides) 0 → DSs X (defBody s_divides) (rd_divides) := fun X c =>
  (ds_cons (ds_for c (di_zip c g_divides_zip T.b_zip (da_cons (de_var c v_divides_0) (da_cons (de_var c v_divides_1) da_nil))) (dg_tup c (dgs_cons (dg_name c l_divides_2) (dgs_cons (dg_name c l_divides_3) dgs_nil))) (ds_one (ds_if (dt_cp op_qGt rfl (de_var c v_divides_2) (de_var c v_divides_3)) (ds_one (ds_ret de_bl)) ds_nil)))
  (ds_one (ds_ret de_bl)))
theorem o_divides  (T : Tx mg)  {f : Addr} {fd : FuncData} {sp : SpD} (Fu : Fun K "divides" "divides" s_divides f fd) (hm : mg "divides" = some (.ref f)) (len : ∀ xs st Q, sp xs st Q → xs.length = 2) (sem : ∀ xs st Q, sp xs st Q → rd_divides { nx := fun _ st' => Fg Q (.d .none) st', rt := Fg Q } (startD 4 xs) st) : Cl P w K mg base "divides" 1 sp :=
  ⟨f, fd, ["a", "b"], hm, Fu.kp, fn_ok Fu S_divides len (d_divides T ) sem, Fu.binds fun _ _ _ _ _ _ us hl => match us, hl with | [_, _], _ => rfl⟩
abbrev s_least_ones : Stmt := top 14
abbrev N_least_ones : List Str := ["monomials", "found", "monomial", "other"]
theorem S_least_ones : FnScope N_least_ones ["monomials"] (defScope s_least_ones) := ⟨rfl, rfl, rfl, by decide +kernel, rfl, by decide +kernel, by decide +kernel⟩
theorem v_least_ones_0 : visB N_least_ones (defScope s_least_ones) 0 "monomials" = true := by decide +kernel
theorem v_least_ones_1 : visB N_least_ones (defScope s_least_ones) 1 "found" = true := by decide +kernel
theorem l_least_ones_1 : locB N_least_ones (defScope s_least_ones) (defScope s_least_ones) 1 "found" = true := by decide +kernel
theorem v_least_ones_2 : visB N_least_ones (defScope s_least_ones) 2 "monomial" = true := by decide +kernel
theorem l_least_ones_2 : locB N_least_ones (defScope s_least_ones) (defScope s_least_ones) 2 "monomial" = true := by decide +kernel
theorem g_least_ones_sorted : glB (defScope s_least_ones) "sorted" = true := by decide +kernel
theorem g_least_ones_set : glB (defScope s_least_ones) "set" = true := by decide +kernel
theorem g_least_ones_any : glB (defScope s_least_ones) "any" = true := by decide +kernel
set_option maxHeartbeats 4000000 in
theorem d_least_ones {sp_divides : SpD} (T : Tx mg) (C_divides : Cl P w K mg base "divides" 1 sp_divides) : ∀ X, Cok P w K mg base X N_least_ones (defScope s_least_ones) (defScope s_least_ones) 1 → DSs X (defBody s_least_ones) (rd_least_ones sp_divides) := fun X c =>
  (ds_cons (ds_asg c (de_lst true da_nil) (dg_name c l_least_ones_1) rfl rfl)
  (ds_cons (ds_for c (di_seq (BS.de_sortB false c g_least_ones_sorted T.b_sorted g_least_ones_set T.b_set (de_var c v_least_ones_0))) (dg_name c l_least_ones_2) (ds_one (ds_if (dt_not (dt_val (de_cb c g_least_ones_any T.b_any bb_any (c_any c.calm) (da_cons (de_lc false [("other", 3)] c (by decide +kernel) (by decide) (di_seq (de_var c v_least_ones_1)) (fun _ c1 => (dg_name c1 (by decide +kernel))) (fun _ c1 => dts_nil) (fun _ c1 => (de_callC c1 (by decide +kernel) C_divides (by decide) (da_cons (de_var c1 (by decide +kernel)) (da_cons (de_var c1 (by decide +kernel)) da_nil))))) da_nil)))) (ds_one (ds_expr (de_append (de_var c v_least_ones_1) (de_var c v_least_ones_2)))) ds_nil)))
  (ds_one (ds_ret (de_var c v_least_ones_1)))))
theorem o_least_ones {sp_divides : SpD} (T : Tx mg) (C_divides : Cl P w K mg base "divides" 1 sp_divides) {f : Addr} {fd : FuncData} {sp : SpD} (Fu : Fun K "least_ones" "least_ones" s_least_ones f fd) (hm : mg "least_ones" = some (.ref f)) (len : ∀ xs st Q, sp xs st Q → xs.length = 1) (sem : ∀ xs st Q, sp xs st Q → rd_least_ones sp_divides { nx := fun _ st' => Fg Q (.d .none) st', rt := Fg Q } (startD 4 xs) st) : Cl P w K mg base "least_ones" 2 sp :=
  ⟨f, fd, ["monomials"], hm, Fu.kp, fn_ok Fu S_least_ones len (d_least_ones T C_divides) sem, Fu.binds fun _ _ _ _ _ _ us hl => match us, hl with | [_], _ => rfl⟩
abbrev s_made : Stmt := top 15
abbrev N_made : List Str := ["n", "monomials", "found", "monomial"]
theorem S_made : FnScope N_made ["n", "monomials"] (defScope s_made) := ⟨rfl, rfl, rfl, by decide +kernel, rfl, by decide +kernel, by decide +kernel⟩
theorem v_made_0 : visB N_made (defScope s_made) 0 "n" = true := by decide +kernel
theorem v_made_1 : visB N_made (defScope s_made) 1 "monomials" = true := by decide +kernel
theorem v_made_2 : visB N_made (defScope s_made) 2 "found" = true := by decide +kernel
theorem l_made_2 : locB N_made (defScope s_made) (defScope s_made) 2 "found" = true := by decide +kernel
theorem v_made_3 : visB N_made (defScope s_made) 3 "monomial" = true := by decide +kernel
theorem l_made_3 : locB N_made (defScope s_made) (defScope s_made) 3 "monomial" = true := by decide +kernel
theorem g_made_least_ones : glB (defScope s_made) "least_ones" = true := by decide +kernel
theorem g_made_len : glB (defScope s_made) "len" = true := by decide +kernel
theorem g_made_MOST_GENERATORS : glB (defScope s_made) "MOST_GENERATORS" = true := by decide +kernel
theorem g_made_max : glB (defScope s_made) "max" = true := by decide +kernel
theorem g_made_MOST_EXPONENT : glB (defScope s_made) "MOST_EXPONENT" = true := by decide +kernel
theorem g_made_tuple : glB (defScope s_made) "tuple" = true := by decide +kernel
set_option maxHeartbeats 4000000 in
theorem d_made {sp_least_ones : SpD} (T : Tx mg) (C_least_ones : Cl P w K mg base "least_ones" 2 sp_least_ones) : ∀ X, Cok P w K mg base X N_made (defScope s_made) (defScope s_made) 2 → DSs X (defBody s_made) (rd_made sp_least_ones) := fun X c =>
  (ds_cons (ds_asg c (de_callC c g_made_least_ones C_least_ones (by decide) (da_cons (de_var c v_made_1) da_nil)) (dg_name c l_made_2) rfl rfl)
  (ds_cons (ds_if (dt_cp op_qGt rfl (de_cb c g_made_len T.b_len bb_len c_len (da_cons (de_var c v_made_2) da_nil)) (de_gint c g_made_MOST_GENERATORS T.c_MOST_GENERATORS)) (ds_one ds_never) ds_nil)
  (ds_cons (ds_for c (di_seq (de_var c v_made_2)) (dg_name c l_made_3) (ds_one (ds_if (dt_cp op_qGt rfl (de_cb c g_made_max T.b_max bb_max (c_max1 c.calm c.hu65) (da_cons (de_var c v_made_3) da_nil)) (de_gint c g_made_MOST_EXPONENT T.c_MOST_EXPONENT)) (ds_one ds_never) ds_nil)))
  (ds_one (ds_ret (de_tup (da_cons (de_var c v_made_0) (da_cons (de_ct c g_made_tuple T.b_tuple bt_tuple c_tuple (da_cons (de_var c v_made_2) da_nil)) da_nil))))))))
theorem o_made {sp_least_ones : SpD} (T : Tx mg) (C_least_ones : Cl P w K mg base "least_ones" 2 sp_least_ones) {f : Addr} {fd : FuncData} {sp : SpD} (Fu : Fun K "made" "made" s_made f fd) (hm : mg "made" = some (.ref f)) (len : ∀ xs st Q, sp xs st Q → xs.length = 2) (sem : ∀ xs st Q, sp xs st Q → rd_made sp_least_ones { nx := fun _ st' => Fg Q (.d .none) st', rt := Fg Q } (startD 4 xs) st) : Cl P w K mg base "made" 3 sp :=
  ⟨f, fd, ["n", "monomials"], hm, Fu.kp, fn_ok Fu S_made len (d_made T C_least_ones) sem, Fu.binds fun _ _ _ _ _ _ us hl => match us, hl with | [_, _], _ => rfl⟩
abbrev s_product_of_vertices : Stmt := top 32
abbrev N_product_of_vertices : List Str := ["v", "face", "vertex"]
theorem S_product_of_vertices : FnScope N_product_of_vertices ["v", "face"] (defScope s_product_of_vertices) := ⟨rfl, rfl, rfl, by decide +kernel, rfl, by decide +kernel, by decide +kernel⟩
theorem v_product_of_vertices_0 : visB N_product_of_vertices (defScope s_product_of_vertices) 0 "v" = true := by decide +kernel
theorem g_product_of_vertices_range : glB (defScope s_product_of_vertices) "range" = true := by decide +kernel
theorem g_product_of_vertices_tuple : glB (defScope s_product_of_vertices) "tuple" = true := by decide +kernel
set_option maxHeartbeats 4000000 in
theorem d_product_of_vertices  (T : Tx mg)  : ∀ X, Cok P w K mg base X N_product_of_vertices (defScope s_product_of_vertices) (defScope s_product_of_vertices) 0 → DSs X (defBody s_product_of_vertices) (rd_product_of_vertices) := fun X c =>
  (ds_one (ds_ret (de_ct c g_product_of_vertices_tuple T.b_tuple bt_tuple c_tuple (da_cons (de_lc false [("vertex", 2)] c (by decide +kernel) (by decide) (di_rng1 c g_product_of_vertices_range T.b_range (da_cons (de_var c v_product_of_vertices_0) da_nil)) (fun _ c1 => (dg_name c1 (by decide +kernel))) (fun _ c1 => dts_nil) (fun _ c1 => (de_if (dt_cp (op_qIn c1.hu65) rfl (de_var c1 (by decide +kernel)) (de_var c1 (by decide +kernel))) de_int de_int))) da_nil))))
theorem o_product_of_vertices  (T : Tx mg)  {f : Addr} {fd : FuncData} {sp : SpD} (Fu : Fun K "product_of_vertices" "product_of_vertices" s_product_of_vertices f fd) (hm : mg "product_of_vertices" = some (.ref f)) (len : ∀ xs st Q, sp xs st Q → xs.length = 2) (sem : ∀ xs st Q, sp xs st Q → rd_product_of_vertices { nx := fun _ st' => Fg Q (.d .none) st', rt := Fg Q } (startD 3 xs) st) : Cl P w K mg base "product_of_vertices" 1 sp :=
  ⟨f, fd, ["v", "face"], hm, Fu.kp, fn_ok Fu S_product_of_vertices len (d_product_of_vertices T ) sem, Fu.binds fun _ _ _ _ _ _ us hl => match us, hl with | [_, _], _ => rfl⟩
abbrev s_edge_ideal : Stmt := top 35
abbrev N_edge_ideal : List Str := ["graph", "edge"]
theorem S_edge_ideal : FnScope N_edge_ideal ["graph"] (defScope s_edge_ideal) := ⟨rfl, rfl, rfl, by decide +kernel, rfl, by decide +kernel, by decide +kernel⟩
theorem v_edge_ideal_0 : visB N_edge_ideal (defScope s_edge_ideal) 0 "graph" = true := by decide +kernel
theorem g_edge_ideal_made : glB (defScope s_edge_ideal) "made" = true := by decide +kernel
set_option maxHeartbeats 4000000 in
theorem d_edge_ideal {sp_product_of_vertices : SpD} {sp_made : SpD} (T : Tx mg) (C_product_of_vertices : Cl P w K mg base "product_of_vertices" 1 sp_product_of_vertices) (C_made : Cl P w K mg base "made" 3 sp_made) : ∀ X, Cok P w K mg base X N_edge_ideal (defScope s_edge_ideal) (defScope s_edge_ideal) 3 → DSs X (defBody s_edge_ideal) (rd_edge_ideal sp_product_of_vertices sp_made) := fun X c =>
  (ds_one (ds_ret (de_callC c g_edge_ideal_made C_made (by decide) (da_cons (de_ix (de_var c v_edge_ideal_0) de_int (fun _ _ => rfl)) (da_cons (de_lc false [("edge", 1)] c (by decide +kernel) (by decide) (di_seq (de_ix (de_var c v_edge_ideal_0) de_int (fun _ _ => rfl))) (fun _ c1 => (dg_name c1 (by decide +kernel))) (fun _ c1 => dts_nil) (fun _ c1 => (de_callC c1 (by decide +kernel) C_product_of_vertices (by decide) (da_cons (de_ix (de_var c1 (by decide +kernel)) de_int (fun _ _ => rfl)) (da_cons (de_var c1 (by decide +kernel)) da_nil))))) da_nil)))))
theorem o_edge_ideal {sp_product_of_vertices : SpD} {sp_made : SpD} (T : Tx mg) (C_product_of_vertices : Cl P w K mg base "product_of_vertices" 1 sp_product_of_vertices) (C_made : Cl P w K mg base "made" 3 sp_made) {f : Addr} {fd : FuncData} {sp : SpD} (Fu : Fun K "edge_ideal" "edge_ideal" s_edge_ideal f fd) (hm : mg "edge_ideal" = some (.ref f)) (len : ∀ xs st Q, sp xs st Q → xs.length = 1) (sem : ∀ xs st Q, sp xs st Q → rd_edge_ideal sp_product_of_vertices sp_made { nx := fun _ st' => Fg Q (.d .none) st', rt := Fg Q } (startD 2 xs) st) : Cl P w K mg base "edge_ideal" 4 sp :=
  ⟨f, fd, ["graph"], hm, Fu.kp, fn_ok Fu S_edge_ideal len (d_edge_ideal T C_product_of_vertices C_made) sem, Fu.binds fun _ _ _ _ _ _ us hl => match us, hl with | [_], _ => rfl⟩
abbrev s_neighbours_of : Stmt := top 34
abbrev N_neighbours_of : List Str := ["graph", "found", "one", "other", "vertex", "row"]
theorem S_neighbours_of : FnScope N_neighbours_of ["graph"] (defScope s_neighbours_of) := ⟨rfl, rfl, rfl, by decide +kernel, rfl, by decide +kernel, by decide +kernel⟩
theorem v_neighbours_of_0 : visB N_neighbours_of (defScope s_neighbours_of) 0 "graph" = true := by decide +kernel
theorem v_neighbours_of_1 : visB N_neighbours_of (defScope s_neighbours_of) 1 "found" = true := by decide +kernel
theorem v_neighbours_of_2 : visB N_neighbours_of (defScope s_neighbours_of) 2 "one" = true := by decide +kernel
theorem l_neighbours_of_2 : locB N_neighbours_of (defScope s_neighbours_of) (defScope s_neighbours_of) 2 "one" = true := by decide +kernel
theorem v_neighbours_of_3 : visB N_neighbours_of (defScope s_neighbours_of) 3 "other" = true := by decide +kernel
theorem l_neighbours_of_3 : locB N_neighbours_of (defScope s_neighbours_of) (defScope s_neighbours_of) 3 "other" = true := by decide +kernel
theorem g_neighbours_of_range : glB (defScope s_neighbours_of) "range" = true := by decide +kernel
set_option maxHeartbeats 4000000 in
theorem d_neighbours_of  (T : Tx mg)  : ∀ X, Cok P w K mg base X N_neighbours_of (defScope s_neighbours_of) (defScope s_neighbours_of) 0 → DSs X (defBody s_neighbours_of) (rd_neighbours_of) := fun X c =>
  (ds_cons (ds_setLc (i := 1) true [("vertex", 4)] c (by decide +kernel) (by kernel_rfl) (by decide +kernel) (by decide) (di_rng1 c g_neighbours_of_range T.b_range (da_cons (de_ix (de_var c v_neighbours_of_0) de_int (fun _ _ => rfl)) da_nil)) (fun _ c1 => (dg_name c1 (by decide +kernel))) (fun _ c1 => dts_nil) (fun _ c1 => (de_lst true da_nil)))
  (ds_cons (ds_for c (di_seq (de_ix (de_var c v_neighbours_of_0) de_int (fun _ _ => rfl))) (dg_tup c (dgs_cons (dg_name c l_neighbours_of_2) (dgs_cons (dg_name c l_neighbours_of_3) dgs_nil))) (ds_cons (ds_expr (de_append (de_ix (de_var c v_neighbours_of_1) (de_var c v_neighbours_of_2) (fun _ _ => rfl)) (de_var c v_neighbours_of_3)))
      (ds_one (ds_expr (de_append (de_ix (de_var c v_neighbours_of_1) (de_var c v_neighbours_of_3) (fun _ _ => rfl)) (de_var c v_neighbours_of_2))))))
  (ds_one (ds_ret (de_lc false [("row", 5)] c (by decide +kernel) (by decide) (di_seq (de_var c v_neighbours_of_1)) (fun _ c1 => (dg_name c1 (by decide +kernel))) (fun _ c1 => dts_nil) (fun _ c1 => (de_sortD false c1 (by decide +kernel) T.b_sorted (de_var c1 (by decide +kernel)))))))))
theorem o_neighbours_of  (T : Tx mg)  {f : Addr} {fd : FuncData} {sp : SpD} (Fu : Fun K "neighbours_of" "neighbours_of" s_neighbours_of f fd) (hm : mg "neighbours_of" = some (.ref f)) (len : ∀ xs st Q, sp xs st Q → xs.length = 1) (sem : ∀ xs st Q, sp xs st Q → rd_neighbours_of { nx := fun _ st' => Fg Q (.d .none) st', rt := Fg Q } (startD 6 xs) st) : Cl P w K mg base "neighbours_of" 1 sp :=
  ⟨f, fd, ["graph"], hm, Fu.kp, fn_ok Fu S_neighbours_of len (d_neighbours_of T ) sem, Fu.binds fun _ _ _ _ _ _ us hl => match us, hl with | [_], _ => rfl⟩
abbrev s_is_cover : Stmt := top 36
abbrev N_is_cover : List Str := ["graph", "vertices", "one", "other"]
theorem S_is_cover : FnScope N_is_cover ["graph", "vertices"] (defScope s_is_cover) := ⟨rfl, rfl, rfl, by decide +kernel, rfl, by decide +kernel, by decide +kernel⟩
theorem v_is_cover_0 : visB N_is_cover (defScope s_is_cover) 0 "graph" = true := by decide +kernel
theorem g_is_cover_all : glB (defScope s_is_cover) "all" = true := by decide +kernel
set_option maxHeartbeats 4000000 in
theorem d_is_cover  (T : Tx mg)  : ∀ X, Cok P w K mg base X N_is_cover (defScope s_is_cover) (defScope s_is_cover) 0 → DSs X (defBody s_is_cover) (rd_is_cover) := fun X c =>
  (ds_one (ds_ret (de_cb c g_is_cover_all T.b_all bb_all (c_all c.calm) (da_cons (de_lc false [("one", 2), ("other", 3)] c (by decide +kernel) (by decide) (di_seq (de_ix (de_var c v_is_cover_0) de_int (fun _ _ => rfl))) (fun _ c1 => (dg_tup c1 (dgs_cons (dg_name c1 (by decide +kernel)) (dgs_cons (dg_name c1 (by decide +kernel)) dgs_nil)))) (fun _ c1 => dts_nil) (fun _ c1 => (de_or (de_cp (op_qIn c1.hu65) rfl (de_var c1 (by decide +kernel)) (de_var c1 (by decide +kernel))) (de_one (de_cp (op_qIn c1.hu65) rfl (de_var c1 (by decide +kernel)) (de_var c1 (by decide +kernel))))))) da_nil))))
theorem o_is_cover  (T : Tx mg)  {f : Addr} {fd : FuncData} {sp : SpD} (Fu : Fun K "is_cover" "is_cover" s_is_cover f fd) (hm : mg "is_cover" = some (.ref f)) (len : ∀ xs st Q, sp xs st Q → xs.length = 2) (sem : ∀ xs st Q, sp xs st Q → rd_is_cover { nx := fun _ st' => Fg Q (.d .none) st', rt := Fg Q } (startD 4 xs) st) : Cl P w K mg base "is_cover" 1 sp :=
  ⟨f, fd, ["graph", "vertices"], hm, Fu.kp, fn_ok Fu S_is_cover len (d_is_cover T ) sem, Fu.binds fun _ _ _ _ _ _ us hl => match us, hl with | [_, _], _ => rfl⟩
abbrev s_is_least_cover : Stmt := top 37
abbrev N_is_least_cover : List Str := ["graph", "near", "vertices", "vertex", "other"]
theorem S_is_least_cover : FnScope N_is_least_cover ["graph", "near", "vertices"] (defScope s_is_least_cover) := ⟨rfl, rfl, rfl, by decide +kernel, rfl, by decide +kernel, by decide +kernel⟩
theorem v_is_least_cover_0 : visB N_is_least_cover (defScope s_is_least_cover) 0 "graph" = true := by decide +kernel
theorem v_is_least_cover_1 : visB N_is_least_cover (defScope s_is_least_cover) 1 "near" = true := by decide +kernel
theorem v_is_least_cover_2 : visB N_is_least_cover (defScope s_is_least_cover) 2 "vertices" = true := by decide +kernel
theorem v_is_least_cover_3 : visB N_is_least_cover (defScope s_is_least_cover) 3 "vertex" = true := by decide +kernel
theorem l_is_least_cover_3 : locB N_is_least_cover (defScope s_is_least_cover) (defScope s_is_least_cover) 3 "vertex" = true := by decide +kernel
theorem g_is_least_cover_is_cover : glB (defScope s_is_least_cover) "is_cover" = true := by decide +kernel
theorem g_is_least_cover_all : glB (defScope s_is_least_cover) "all" = true := by decide +kernel
set_option maxHeartbeats 4000000 in
theorem d_is_least_cover {sp_is_cover : SpD} (T : Tx mg) (C_is_cover : Cl P w K mg base "is_cover" 1 sp_is_cover) : ∀ X, Cok P w K mg base X N_is_least_cover (defScope s_is_least_cover) (defScope s_is_least_cover) 1 → DSs X (defBody s_is_least_cover) (rd_is_least_cover sp_is_cover) := fun X c =>
  (ds_cons (ds_if (dt_not (dt_val (de_callC c g_is_least_cover_is_cover C_is_cover (by decide) (da_cons (de_var c v_is_least_cover_0) (da_cons (de_var c v_is_least_cover_2) da_nil))))) (ds_one (ds_ret de_bl)) ds_nil)
  (ds_cons (ds_for c (di_seq (de_var c v_is_least_cover_2)) (dg_name c l_is_least_cover_3) (ds_one (ds_if (dt_val (de_cb c g_is_least_cover_all T.b_all bb_all (c_all c.calm) (da_cons (de_lc false [("other", 4)] c (by decide +kernel) (by decide) (di_seq (de_ix (de_var c v_is_least_cover_1) (de_var c v_is_least_cover_3) (fun _ _ => rfl))) (fun _ c1 => (dg_name c1 (by decide +kernel))) (fun _ c1 => dts_nil) (fun _ c1 => (de_cp (op_qIn c1.hu65) rfl (de_var c1 (by decide +kernel)) (de_var c1 (by decide +kernel))))) da_nil))) (ds_one (ds_ret de_bl)) ds_nil)))
  (ds_one (ds_ret de_bl))))
theorem o_is_least_cover {sp_is_cover : SpD} (T : Tx mg) (C_is_cover : Cl P w K mg base "is_cover" 1 sp_is_cover) {f : Addr} {fd : FuncData} {sp : SpD} (Fu : Fun K "is_least_cover" "is_least_cover" s_is_least_cover f fd) (hm : mg "is_least_cover" = some (.ref f)) (len : ∀ xs st Q, sp xs st Q → xs.length = 3) (sem : ∀ xs st Q, sp xs st Q → rd_is_least_cover sp_is_cover { nx := fun _ st' => Fg Q (.d .none) st', rt := Fg Q } (startD 5 xs) st) : Cl P w K mg base "is_least_cover" 2 sp :=
  ⟨f, fd, ["graph", "near", "vertices"], hm, Fu.kp, fn_ok Fu S_is_least_cover len (d_is_least_cover T C_is_cover) sem, Fu.binds fun _ _ _ _ _ _ us hl => match us, hl with | [_, _, _], _ => rfl⟩
abbrev s_cover_ideal : Stmt := top 38
abbrev N_cover_ideal : List Str := ["graph", "n", "near", "found", "size", "vertices"]
theorem S_cover_ideal : FnScope N_cover_ideal ["graph"] (defScope s_cover_ideal) := ⟨rfl, rfl, rfl, by decide +kernel, rfl, by decide +kernel, by decide +kernel⟩
theorem v_cover_ideal_0 : visB N_cover_ideal (defScope s_cover_ideal) 0 "graph" = true := by decide +kernel
theorem v_cover_ideal_1 : visB N_cover_ideal (defScope s_cover_ideal) 1 "n" = true := by decide +kernel
theorem v_cover_ideal_2 : visB N_cover_ideal (defScope s_cover_ideal) 2 "near" = true := by decide +kernel
theorem v_cover_ideal_3 : visB N_cover_ideal (defScope s_cover_ideal) 3 "found" = true := by decide +kernel
theorem v_cover_ideal_4 : visB N_cover_ideal (defScope s_cover_ideal) 4 "size" = true := by decide +kernel
theorem l_cover_ideal_4 : locB N_cover_ideal (defScope s_cover_ideal) (defScope s_cover_ideal) 4 "size" = true := by decide +kernel
theorem v_cover_ideal_5 : visB N_cover_ideal (defScope s_cover_ideal) 5 "vertices" = true := by decide +kernel
theorem l_cover_ideal_5 : locB N_cover_ideal (defScope s_cover_ideal) (defScope s_cover_ideal) 5 "vertices" = true := by decide +kernel
theorem g_cover_ideal_neighbours_of : glB (defScope s_cover_ideal) "neighbours_of" = true := by decide +kernel
theorem g_cover_ideal_range : glB (defScope s_cover_ideal) "range" = true := by decide +kernel
theorem g_cover_ideal_combinations : glB (defScope s_cover_ideal) "combinations" = true := by decide +kernel
theorem g_cover_ideal_is_least_cover : glB (defScope s_cover_ideal) "is_least_cover" = true := by decide +kernel
theorem g_cover_ideal_product_of_vertices : glB (defScope s_cover_ideal) "product_of_vertices" = true := by decide +kernel
theorem g_cover_ideal_made : glB (defScope s_cover_ideal) "made" = true := by decide +kernel
set_option maxHeartbeats 4000000 in
theorem d_cover_ideal {sp_neighbours_of : SpD} {sp_is_least_cover : SpD} {sp_product_of_vertices : SpD} {sp_made : SpD} (T : Tx mg) (C_neighbours_of : Cl P w K mg base "neighbours_of" 1 sp_neighbours_of) (C_is_least_cover : Cl P w K mg base "is_least_cover" 2 sp_is_least_cover) (C_product_of_vertices : Cl P w K mg base "product_of_vertices" 1 sp_product_of_vertices) (C_made : Cl P w K mg base "made" 3 sp_made) : ∀ X, Cok P w K mg base X N_cover_ideal (defScope s_cover_ideal) (defScope s_cover_ideal) 3 → DSs X (defBody s_cover_ideal) (rd_cover_ideal sp_neighbours_of sp_is_least_cover sp_product_of_vertices sp_made) := fun X c =>
  (ds_cons (ds_par3 (i := 1) (j := 2) (l := 3) c (by decide +kernel) (da_cons (de_ix (de_var c v_cover_ideal_0) de_int (fun _ _ => rfl)) (da_cons (de_callC c g_cover_ideal_neighbours_of C_neighbours_of (by decide) (da_cons (de_var c v_cover_ideal_0) da_nil)) (da_cons (de_lst true da_nil) da_nil))) (by kernel_rfl))
  (ds_cons (ds_for c (di_rng1 c g_cover_ideal_range T.b_range (da_cons (de_bin (op_qAdd false) (de_var c v_cover_ideal_1) de_int) da_nil)) (dg_name c l_cover_ideal_4) (ds_one (ds_for c (di_combR c g_cover_ideal_combinations T.m_combinations g_cover_ideal_range T.b_range (de_var c v_cover_ideal_1) (de_var c v_cover_ideal_4)) (dg_name c l_cover_ideal_5) (ds_one (ds_if (dt_val (de_callC c g_cover_ideal_is_least_cover C_is_least_cover (by decide) (da_cons (de_var c v_cover_ideal_0) (da_cons (de_var c v_cover_ideal_2) (da_cons (de_var c v_cover_ideal_5) da_nil))))) (ds_one (ds_expr (de_append (de_var c v_cover_ideal_3) (de_callC c g_cover_ideal_product_of_vertices C_product_of_vertices (by decide) (da_cons (de_var c v_cover_ideal_1) (da_cons (de_var c v_cover_ideal_5) da_nil)))))) ds_nil)))))
  (ds_one (ds_ret (de_callC c g_cover_ideal_made C_made (by decide) (da_cons (de_var c v_cover_ideal_1) (da_cons (de_var c v_cover_ideal_3) da_nil)))))))
theorem o_cover_ideal {sp_neighbours_of : SpD} {sp_is_least_cover : SpD} {sp_product_of_vertices : SpD} {sp_made : SpD} (T : Tx mg) (C_neighbours_of : Cl P w K mg base "neighbours_of" 1 sp_neighbours_of) (C_is_least_cover : Cl P w K mg base "is_least_cover" 2 sp_is_least_cover) (C_product_of_vertices : Cl P w K mg base "product_of_vertices" 1 sp_product_of_vertices) (C_made : Cl P w K mg base "made" 3 sp_made) {f : Addr} {fd : FuncData} {sp : SpD} (Fu : Fun K "cover_ideal" "cover_ideal" s_cover_ideal f fd) (hm : mg "cover_ideal" = some (.ref f)) (len : ∀ xs st Q, sp xs st Q → xs.length = 1) (sem : ∀ xs st Q, sp xs st Q → rd_cover_ideal sp_neighbours_of sp_is_least_cover sp_product_of_vertices sp_made { nx := fun _ st' => Fg Q (.d .none) st', rt := Fg Q } (startD 6 xs) st) : Cl P w K mg base "cover_ideal" 4 sp :=
  ⟨f, fd, ["graph"], hm, Fu.kp, fn_ok Fu S_cover_ideal len (d_cover_ideal T C_neighbours_of C_is_least_cover C_product_of_vertices C_made) sem, Fu.binds fun _ _ _ _ _ _ us hl => match us, hl with | [_], _ => rfl⟩
abbrev s_want_small : Stmt := top 16
abbrev N_want_small : List Str := ["ideal"]
theorem S_want_small : FnScope N_want_small ["ideal"] (defScope s_want_small) := ⟨rfl, rfl, rfl, by decide +kernel, rfl, by decide +kernel, by decide +kernel⟩
theorem v_want_small_0 : visB N_want_small (defScope s_want_small) 0 "ideal" = true := by decide +kernel
theorem g_want_small_SMALL_VARIABLES : glB (defScope s_want_small) "SMALL_VARIABLES" = true := by decide +kernel
theorem g_want_small_len : glB (defScope s_want_small) "len" = true := by decide +kernel
theorem g_want_small_SMALL_GENERATORS : glB (defScope s_want_small) "SMALL_GENERATORS" = true := by decide +kernel
set_option maxHeartbeats 4000000 in
theorem d_want_small  (T : Tx mg)  : ∀ X, Cok P w K mg base X N_want_small (defScope s_want_small) (defScope s_want_small) 0 → DSs X (defBody s_want_small) (rd_want_small) := fun X c =>
  (ds_cons (ds_if (dt_cp op_qGt rfl (de_ix (de_var c v_want_small_0) de_int (fun _ _ => rfl)) (de_gint c g_want_small_SMALL_VARIABLES T.c_SMALL_VARIABLES)) (ds_one ds_never) ds_nil)
  (ds_one (ds_if (dt_cp op_qGt rfl (de_cb c g_want_small_len T.b_len bb_len c_len (da_cons (de_ix (de_var c v_want_small_0) de_int (fun _ _ => rfl)) da_nil)) (de_gint c g_want_small_SMALL_GENERATORS T.c_SMALL_GENERATORS)) (ds_one ds_never) ds_nil)))
theorem o_want_small  (T : Tx mg)  {f : Addr} {fd : FuncData} {sp : SpD} (Fu : Fun K "want_small" "want_small" s_want_small f fd) (hm : mg "want_small" = some (.ref f)) (len : ∀ xs st Q, sp xs st Q → xs.length = 1) (sem : ∀ xs st Q, sp xs st Q → rd_want_small { nx := fun _ st' => Fg Q (.d .none) st', rt := Fg Q } (startD 1 xs) st) : Cl P w K mg base "want_small" 1 sp :=
  ⟨f, fd, ["ideal"], hm, Fu.kp, fn_ok Fu S_want_small len (d_want_small T ) sem, Fu.binds fun _ _ _ _ _ _ us hl => match us, hl with | [_], _ => rfl⟩
abbrev s_turned : Stmt := top 29
abbrev N_turned : List Str := ["part", "c", "entry", "top"]
theorem S_turned : FnScope N_turned ["part", "c"] (defScope s_turned) := ⟨rfl, rfl, rfl, by decide +kernel, rfl, by decide +kernel, by decide +kernel⟩
theorem v_turned_0 : visB N_turned (defScope s_turned) 0 "part" = true := by decide +kernel
theorem v_turned_1 : visB N_turned (defScope s_turned) 1 "c" = true := by decide +kernel
theorem g_turned_zip : glB (defScope s_turned) "zip" = true := by decide +kernel
theorem g_turned_tuple : glB (defScope s_turned) "tuple" = true := by decide +kernel
set_option maxHeartbeats 4000000 in
theorem d_turned  (T : Tx mg)  : ∀ X, Cok P w K mg base X N_turned (defScope s_turned) (defScope s_turned) 0 → DSs X (defBody s_turned) (rd_turned) := fun X c =>
  (ds_one (ds_ret (de_ct c g_turned_tuple T.b_tuple bt_tuple c_tuple (da_cons (de_lc false [("entry", 2), ("top", 3)] c (by decide +kernel) (by decide) (di_zip c g_turned_zip T.b_zip (da_cons (de_var c v_turned_0) (da_cons (de_var c v_turned_1) da_nil))) (fun _ c1 => (dg_tup c1 (dgs_cons (dg_name c1 (by decide +kernel)) (dgs_cons (dg_name c1 (by decide +kernel)) dgs_nil)))) (fun _ c1 => dts_nil) (fun _ c1 => (de_if (dt_cp op_qGt rfl (de_var c1 (by decide +kernel)) de_int) (de_bin op_qSub (de_bin (op_qAdd false) (de_var c1 (by decide +kernel)) de_int) (de_var c1 (by decide +kernel))) de_int))) da_nil))))
theorem o_turned  (T : Tx mg)  {f : Addr} {fd : FuncData} {sp : SpD} (Fu : Fun K "turned" "turned" s_turned f fd) (hm : mg "turned" = some (.ref f)) (len : ∀ xs st Q, sp xs st Q → xs.length = 2) (sem : ∀ xs st Q, sp xs st Q → rd_turned { nx := fun _ st' => Fg Q (.d .none) st', rt := Fg Q } (startD 4 xs) st) : Cl P w K mg base "turned" 1 sp :=
  ⟨f, fd, ["part", "c"], hm, Fu.kp, fn_ok Fu S_turned len (d_turned T ) sem, Fu.binds fun _ _ _ _ _ _ us hl => match us, hl with | [_, _], _ => rfl⟩
abbrev s_holds : Stmt := top 19
abbrev N_holds : List Str := ["part", "monomial", "entry", "exponent"]
theorem S_holds : FnScope N_holds ["part", "monomial"] (defScope s_holds) := ⟨rfl, rfl, rfl, by decide +kernel, rfl, by decide +kernel, by decide +kernel⟩
theorem v_holds_0 : visB N_holds (defScope s_holds) 0 "part" = true := by decide +kernel
theorem v_holds_1 : visB N_holds (defScope s_holds) 1 "monomial" = true := by decide +kernel
theorem v_holds_2 : visB N_holds (defScope s_holds) 2 "entry" = true := by decide +kernel
theorem l_holds_2 : locB N_holds (defScope s_holds) (defScope s_holds) 2 "entry" = true := by decide +kernel
theorem v_holds_3 : visB N_holds (defScope s_holds) 3 "exponent" = true := by decide +kernel
theorem l_holds_3 : locB N_holds (defScope s_holds) (defScope s_holds) 3 "exponent" = true := by decide +kernel
theorem g_holds_zip : glB (defScope s_holds) "zip" = true := by decide +kernel
set_option maxHeartbeats 4000000 in
theorem d_holds  (T : Tx mg)  : ∀ X, Cok P w K mg base X N_holds (defScope s_holds) (defScope s_holds) 0 → DSs X (defBody s_holds) (rd_holds) := fun X c =>
  (ds_cons (ds_for c (di_zip c g_holds_zip T.b_zip (da_cons (de_var c v_holds_0) (da_cons (de_var c v_holds_1) da_nil))) (dg_tup c (dgs_cons (dg_name c l_holds_2) (dgs_cons (dg_name c l_holds_3) dgs_nil))) (ds_one (ds_if (dt_ch (op_qLt c.hu0) op_qLe rfl de_int (de_var c v_holds_2) (de_var c v_holds_3)) (ds_one (ds_ret de_bl)) ds_nil)))
  (ds_one (ds_ret de_bl)))
theorem o_holds  (T : Tx mg)  {f : Addr} {fd : FuncData} {sp : SpD} (Fu : Fun K "holds" "holds" s_holds f fd) (hm : mg "holds" = some (.ref f)) (len : ∀ xs st Q, sp xs st Q → xs.length = 2) (sem : ∀ xs st Q, sp xs st Q → rd_holds { nx := fun _ st' => Fg Q (.d .none) st', rt := Fg Q } (startD 4 xs) st) : Cl P w K mg base "holds" 1 sp :=
  ⟨f, fd, ["part", "monomial"], hm, Fu.kp, fn_ok Fu S_holds len (d_holds T ) sem, Fu.binds fun _ _ _ _ _ _ us hl => match us, hl with | [_, _], _ => rfl⟩
abbrev s_powers_of : Stmt := top 18
abbrev N_powers_of : List Str := ["part", "found", "i", "exponent", "k"]
theorem S_powers_of : FnScope N_powers_of ["part"] (defScope s_powers_of) := ⟨rfl, rfl, rfl, by decide +kernel, rfl, by decide +kernel, by decide +kernel⟩
theorem v_powers_of_0 : visB N_powers_of (defScope s_powers_of) 0 "part" = true := by decide +kernel
theorem v_powers_of_1 : visB N_powers_of (defScope s_powers_of) 1 "found" = true := by decide +kernel
theorem l_powers_of_1 : locB N_powers_of (defScope s_powers_of) (defScope s_powers_of) 1 "found" = true := by decide +kernel
theorem l_powers_of_2 : locB N_powers_of (defScope s_powers_of) (defScope s_powers_of) 2 "i" = true := by decide +kernel
theorem v_powers_of_3 : visB N_powers_of (defScope s_powers_of) 3 "exponent" = true := by decide +kernel
theorem l_powers_of_3 : locB N_powers_of (defScope s_powers_of) (defScope s_powers_of) 3 "exponent" = true := by decide +kernel
theorem g_powers_of_enumerate : glB (defScope s_powers_of) "enumerate" = true := by decide +kernel
theorem g_powers_of_len : glB (defScope s_powers_of) "len" = true := by decide +kernel
theorem g_powers_of_range : glB (defScope s_powers_of) "range" = true := by decide +kernel
theorem g_powers_of_tuple : glB (defScope s_powers_of) "tuple" = true := by decide +kernel
set_option maxHeartbeats 4000000 in
theorem d_powers_of  (T : Tx mg)  : ∀ X, Cok P w K mg base X N_powers_of (defScope s_powers_of) (defScope s_powers_of) 0 → DSs X (defBody s_powers_of) (rd_powers_of) := fun X c =>
  (ds_cons (ds_asg c (de_lst true da_nil) (dg_name c l_powers_of_1) rfl rfl)
  (ds_cons (ds_for c (di_enum c g_powers_of_enumerate T.b_enumerate (da_cons (de_var c v_powers_of_0) da_nil)) (dg_tup c (dgs_cons (dg_name c l_powers_of_2) (dgs_cons (dg_name c l_powers_of_3) dgs_nil))) (ds_one (ds_if (dt_cp op_qGt rfl (de_var c v_powers_of_3) de_int) (ds_one (ds_expr (de_append (de_var c v_powers_of_1) (de_ct c g_powers_of_tuple T.b_tuple bt_tuple c_tuple (da_cons (de_lc false [("k", 4)] c (by decide +kernel) (by decide) (di_rng1 c g_powers_of_range T.b_range (da_cons (de_cb c g_powers_of_len T.b_len bb_len c_len (da_cons (de_var c v_powers_of_0) da_nil)) da_nil)) (fun _ c1 => (dg_name c1 (by decide +kernel))) (fun _ c1 => dts_nil) (fun _ c1 => (de_if (dt_cp (op_qEq c1.hu64) rfl (de_var c1 (by decide +kernel)) (de_var c1 (by decide +kernel))) (de_var c1 (by decide +kernel)) de_int))) da_nil))))) ds_nil)))
  (ds_one (ds_ret (de_var c v_powers_of_1)))))
theorem o_powers_of  (T : Tx mg)  {f : Addr} {fd : FuncData} {sp : SpD} (Fu : Fun K "powers_of" "powers_of" s_powers_of f fd) (hm : mg "powers_of" = some (.ref f)) (len : ∀ xs st Q, sp xs st Q → xs.length = 1) (sem : ∀ xs st Q, sp xs st Q → rd_powers_of { nx := fun _ st' => Fg Q (.d .none) st', rt := Fg Q } (startD 5 xs) st) : Cl P w K mg base "powers_of" 1 sp :=
  ⟨f, fd, ["part"], hm, Fu.kp, fn_ok Fu S_powers_of len (d_powers_of T ) sem, Fu.binds fun _ _ _ _ _ _ us hl => match us, hl with | [_], _ => rfl⟩
abbrev s_is_around : Stmt := top 20
abbrev N_is_around : List Str := ["part", "other", "power"]
theorem S_is_around : FnScope N_is_around ["part", "other"] (defScope s_is_around) := ⟨rfl, rfl, rfl, by decide +kernel, rfl, by decide +kernel, by decide +kernel⟩
theorem v_is_around_1 : visB N_is_around (defScope s_is_around) 1 "other" = true := by decide +kernel
theorem g_is_around_powers_of : glB (defScope s_is_around) "powers_of" = true := by decide +kernel
theorem g_is_around_all : glB (defScope s_is_around) "all" = true := by decide +kernel
set_option maxHeartbeats 4000000 in
theorem d_is_around {sp_powers_of : SpD} {sp_holds : SpD} (T : Tx mg) (C_powers_of : Cl P w K mg base "powers_of" 1 sp_powers_of) (C_holds : Cl P w K mg base "holds" 1 sp_holds) : ∀ X, Cok P w K mg base X N_is_around (defScope s_is_around) (defScope s_is_around) 1 → DSs X (defBody s_is_around) (rd_is_around sp_powers_of sp_holds) := fun X c =>
  (ds_one (ds_ret (de_cb c g_is_around_all T.b_all bb_all (c_all c.calm) (da_cons (de_lc false [("power", 2)] c (by decide +kernel) (by decide) (di_seq (de_callC c g_is_around_powers_of C_powers_of (by decide) (da_cons (de_var c v_is_around_1) da_nil))) (fun _ c1 => (dg_name c1 (by decide +kernel))) (fun _ c1 => dts_nil) (fun _ c1 => (de_callC c1 (by decide +kernel) C_holds (by decide) (da_cons (de_var c1 (by decide +kernel)) (da_cons (de_var c1 (by decide +kernel)) da_nil))))) da_nil))))
theorem o_is_around {sp_powers_of : SpD} {sp_holds : SpD} (T : Tx mg) (C_powers_of : Cl P w K mg base "powers_of" 1 sp_powers_of) (C_holds : Cl P w K mg base "holds" 1 sp_holds) {f : Addr} {fd : FuncData} {sp : SpD} (Fu : Fun K "is_around" "is_around" s_is_around f fd) (hm : mg "is_around" = some (.ref f)) (len : ∀ xs st Q, sp xs st Q → xs.length = 2) (sem : ∀ xs st Q, sp xs st Q → rd_is_around sp_powers_of sp_holds { nx := fun _ st' => Fg Q (.d .none) st', rt := Fg Q } (startD 3 xs) st) : Cl P w K mg base "is_around" 2 sp :=
  ⟨f, fd, ["part", "other"], hm, Fu.kp, fn_ok Fu S_is_around len (d_is_around T C_powers_of C_holds) sem, Fu.binds fun _ _ _ _ _ _ us hl => match us, hl with | [_, _], _ => rfl⟩
abbrev s_without_idle : Stmt := top 22
abbrev N_without_idle : List Str := ["parts", "once", "part", "other"]
theorem S_without_idle : FnScope N_without_idle ["parts"] (defScope s_without_idle) := ⟨rfl, rfl, rfl, by decide +kernel, rfl, by decide +kernel, by decide +kernel⟩
theorem v_without_idle_0 : visB N_without_idle (defScope s_without_idle) 0 "parts" = true := by decide +kernel
theorem v_without_idle_1 : visB N_without_idle (defScope s_without_idle) 1 "once" = true := by decide +kernel
theorem l_without_idle_1 : locB N_without_idle (defScope s_without_idle) (defScope s_without_idle) 1 "once" = true := by decide +kernel
theorem g_without_idle_sorted : glB (defScope s_without_idle) "sorted" = true := by decide +kernel
theorem g_without_idle_set : glB (defScope s_without_idle) "set" = true := by decide +kernel
set_option maxHeartbeats 4000000 in
theorem d_without_idle {sp_is_around : SpD} (T : Tx mg) (C_is_around : Cl P w K mg base "is_around" 2 sp_is_around) : ∀ X, Cok P w K mg base X N_without_idle (defScope s_without_idle) (defScope s_without_idle) 2 → DSs X (defBody s_without_idle) (rd_without_idle sp_is_around) := fun X c =>
  (ds_cons (ds_asg c (BS.de_sortB false c g_without_idle_sorted T.b_sorted g_without_idle_set T.b_set (de_var c v_without_idle_0)) (dg_name c l_without_idle_1) rfl rfl)
  (ds_one (ds_ret (de_lc false [("part", 2)] c (by decide +kernel) (by decide) (di_seq (de_var c v_without_idle_1)) (fun _ c1 => (dg_name c1 (by decide +kernel))) (fun _ c1 => (dts_one (dt_not (dt_val (de_cb c1 (by decide +kernel) T.b_any bb_any (c_any c1.calm) (da_cons (de_lc false [("other", 3)] c1 (by decide +kernel) (by decide) (di_seq (de_var c1 (by decide +kernel))) (fun _ c2 => (dg_name c2 (by decide +kernel))) (fun _ c2 => dts_nil) (fun _ c2 => (de_and (de_cp (op_qNe c2.hu64) rfl (de_var c2 (by decide +kernel)) (de_var c2 (by decide +kernel))) (de_one (de_callC c2 (by decide +kernel) C_is_around (by decide) (da_cons (de_var c2 (by decide +kernel)) (da_cons (de_var c2 (by decide +kernel)) da_nil))))))) da_nil)))))) (fun _ c1 => (de_var c1 (by decide +kernel)))))))
theorem o_without_idle {sp_is_around : SpD} (T : Tx mg) (C_is_around : Cl P w K mg base "is_around" 2 sp_is_around) {f : Addr} {fd : FuncData} {sp : SpD} (Fu : Fun K "without_idle" "without_idle" s_without_idle f fd) (hm : mg "without_idle" = some (.ref f)) (len : ∀ xs st Q, sp xs st Q → xs.length = 1) (sem : ∀ xs st Q, sp xs st Q → rd_without_idle sp_is_around { nx := fun _ st' => Fg Q (.d .none) st', rt := Fg Q } (startD 4 xs) st) : Cl P w K mg base "without_idle" 3 sp :=
  ⟨f, fd, ["parts"], hm, Fu.kp, fn_ok Fu S_without_idle len (d_without_idle T C_is_around) sem, Fu.binds fun _ _ _ _ _ _ us hl => match us, hl with | [_], _ => rfl⟩
abbrev s_split : Stmt := top 21
abbrev N_split : List Str := ["part", "monomial", "found", "i", "exponent"]
theorem S_split : FnScope N_split ["part", "monomial"] (defScope s_split) := ⟨rfl, rfl, rfl, by decide +kernel, rfl, by decide +kernel, by decide +kernel⟩
theorem v_split_0 : visB N_split (defScope s_split) 0 "part" = true := by decide +kernel
theorem v_split_1 : visB N_split (defScope s_split) 1 "monomial" = true := by decide +kernel
theorem v_split_2 : visB N_split (defScope s_split) 2 "found" = true := by decide +kernel
theorem l_split_2 : locB N_split (defScope s_split) (defScope s_split) 2 "found" = true := by decide +kernel
theorem v_split_3 : visB N_split (defScope s_split) 3 "i" = true := by decide +kernel
theorem l_split_3 : locB N_split (defScope s_split) (defScope s_split) 3 "i" = true := by decide +kernel
theorem v_split_4 : visB N_split (defScope s_split) 4 "exponent" = true := by decide +kernel
theorem l_split_4 : locB N_split (defScope s_split) (defScope s_split) 4 "exponent" = true := by decide +kernel
theorem g_split_holds : glB (defScope s_split) "holds" = true := by decide +kernel
theorem g_split_enumerate : glB (defScope s_split) "enumerate" = true := by decide +kernel
set_option maxHeartbeats 4000000 in
theorem d_split {sp_holds : SpD} (T : Tx mg) (C_holds : Cl P w K mg base "holds" 1 sp_holds) : ∀ X, Cok P w K mg base X N_split (defScope s_split) (defScope s_split) 1 → DSs X (defBody s_split) (rd_split sp_holds) := fun X c =>
  (ds_cons (ds_if (dt_val (de_callC c g_split_holds C_holds (by decide) (da_cons (de_var c v_split_0) (da_cons (de_var c v_split_1) da_nil)))) (ds_one (ds_ret (de_lst false (da_cons (de_var c v_split_0) da_nil)))) ds_nil)
  (ds_cons (ds_asg c (de_lst true da_nil) (dg_name c l_split_2) rfl rfl)
  (ds_cons (ds_for c (di_enum c g_split_enumerate T.b_enumerate (da_cons (de_var c v_split_1) da_nil)) (dg_tup c (dgs_cons (dg_name c l_split_3) (dgs_cons (dg_name c l_split_4) dgs_nil))) (ds_one (ds_if (dt_cp op_qGt rfl (de_var c v_split_4) de_int) (ds_one (ds_expr (de_append (de_var c v_split_2) (de_bin (op_qAdd false) (de_bin (op_qAdd false) (de_sl false (de_var c v_split_0) do_none (do_some (de_var c v_split_3))) (de_tup (da_cons (de_var c v_split_4) da_nil))) (de_sl false (de_var c v_split_0) (do_some (de_bin (op_qAdd false) (de_var c v_split_3) de_int)) do_none))))) ds_nil)))
  (ds_one (ds_ret (de_var c v_split_2))))))
theorem o_split {sp_holds : SpD} (T : Tx mg) (C_holds : Cl P w K mg base "holds" 1 sp_holds) {f : Addr} {fd : FuncData} {sp : SpD} (Fu : Fun K "split" "split" s_split f fd) (hm : mg "split" = some (.ref f)) (len : ∀ xs st Q, sp xs st Q → xs.length = 2) (sem : ∀ xs st Q, sp xs st Q → rd_split sp_holds { nx := fun _ st' => Fg Q (.d .none) st', rt := Fg Q } (startD 5 xs) st) : Cl P w K mg base "split" 2 sp :=
  ⟨f, fd, ["part", "monomial"], hm, Fu.kp, fn_ok Fu S_split len (d_split T C_holds) sem, Fu.binds fun _ _ _ _ _ _ us hl => match us, hl with | [_, _], _ => rfl⟩
abbrev s_components_of : Stmt := top 23
abbrev N_components_of : List Str := ["n", "generators", "found", "one", "wider", "part"]
theorem S_components_of : FnScope N_components_of ["n", "generators"] (defScope s_components_of) := ⟨rfl, rfl, rfl, by decide +kernel, rfl, by decide +kernel, by decide +kernel⟩
theorem v_components_of_0 : visB N_components_of (defScope s_components_of) 0 "n" = true := by decide +kernel
theorem v_components_of_1 : visB N_components_of (defScope s_components_of) 1 "generators" = true := by decide +kernel
theorem v_components_of_2 : visB N_components_of (defScope s_components_of) 2 "found" = true := by decide +kernel
theorem l_components_of_2 : locB N_components_of (defScope s_components_of) (defScope s_components_of) 2 "found" = true := by decide +kernel
theorem v_components_of_3 : visB N_components_of (defScope s_components_of) 3 "one" = true := by decide +kernel
theorem l_components_of_3 : locB N_components_of (defScope s_components_of) (defScope s_components_of) 3 "one" = true := by decide +kernel
theorem v_components_of_4 : visB N_components_of (defScope s_components_of) 4 "wider" = true := by decide +kernel
theorem l_components_of_4 : locB N_components_of (defScope s_components_of) (defScope s_components_of) 4 "wider" = true := by decide +kernel
theorem v_components_of_5 : visB N_components_of (defScope s_components_of) 5 "part" = true := by decide +kernel
theorem l_components_of_5 : locB N_components_of (defScope s_components_of) (defScope s_components_of) 5 "part" = true := by decide +kernel
theorem g_components_of_split : glB (defScope s_components_of) "split" = true := by decide +kernel
theorem g_components_of_without_idle : glB (defScope s_components_of) "without_idle" = true := by decide +kernel
theorem g_components_of_sorted : glB (defScope s_components_of) "sorted" = true := by decide +kernel
theorem g_components_of_tuple : glB (defScope s_components_of) "tuple" = true := by decide +kernel
set_option maxHeartbeats 4000000 in
theorem d_components_of {sp_split : SpD} {sp_without_idle : SpD} (T : Tx mg) (C_split : Cl P w K mg base "split" 2 sp_split) (C_without_idle : Cl P w K mg base "without_idle" 3 sp_without_idle) : ∀ X, Cok P w K mg base X N_components_of (defScope s_components_of) (defScope s_components_of) 3 → DSs X (defBody s_components_of) (rd_components_of sp_split sp_without_idle) := fun X c =>
  (ds_cons (ds_asg c (de_lst false (da_cons (de_bin (op_qMul false) (de_tup (da_cons de_int da_nil)) (de_var c v_components_of_0)) da_nil)) (dg_name c l_components_of_2) rfl rfl)
  (ds_cons (ds_for c (di_seq (de_var c v_components_of_1)) (dg_name c l_components_of_3) (ds_cons (ds_asg c (de_lst true da_nil) (dg_name c l_components_of_4) rfl rfl)
      (ds_cons (ds_for c (di_seq (de_var c v_components_of_2)) (dg_name c l_components_of_5) (ds_one (ds_expr (de_extend (de_var c v_components_of_4) (de_callC c g_components_of_split C_split (by decide) (da_cons (de_var c v_components_of_5) (da_cons (de_var c v_components_of_3) da_nil)))))))
      (ds_one (ds_asg c (de_callC c g_components_of_without_idle C_without_idle (by decide) (da_cons (de_var c v_components_of_4) da_nil)) (dg_name c l_components_of_2) rfl rfl)))))
  (ds_one (ds_ret (de_ct c g_components_of_tuple T.b_tuple bt_tuple c_tuple (da_cons (de_sortD false c g_components_of_sorted T.b_sorted (de_var c v_components_of_2)) da_nil))))))
theorem o_components_of {sp_split : SpD} {sp_without_idle : SpD} (T : Tx mg) (C_split : Cl P w K mg base "split" 2 sp_split) (C_without_idle : Cl P w K mg base "without_idle" 3 sp_without_idle) {f : Addr} {fd : FuncData} {sp : SpD} (Fu : Fun K "components_of" "components_of" s_components_of f fd) (hm : mg "components_of" = some (.ref f)) (len : ∀ xs st Q, sp xs st Q → xs.length = 2) (sem : ∀ xs st Q, sp xs st Q → rd_components_of sp_split sp_without_idle { nx := fun _ st' => Fg Q (.d .none) st', rt := Fg Q } (startD 6 xs) st) : Cl P w K mg base "components_of" 4 sp :=
  ⟨f, fd, ["n", "generators"], hm, Fu.kp, fn_ok Fu S_components_of len (d_components_of T C_split C_without_idle) sem, Fu.binds fun _ _ _ _ _ _ us hl => match us, hl with | [_, _], _ => rfl⟩
abbrev s_dual_of : Stmt := top 30
abbrev N_dual_of : List Str := ["ideal", "c", "n", "generators", "index", "one", "part"]
theorem S_dual_of : FnScope N_dual_of ["ideal", "c"] (defScope s_dual_of) := ⟨rfl, rfl, rfl, by decide +kernel, rfl, by decide +kernel, by decide +kernel⟩
theorem v_dual_of_0 : visB N_dual_of (defScope s_dual_of) 0 "ideal" = true := by decide +kernel
theorem v_dual_of_1 : visB N_dual_of (defScope s_dual_of) 1 "c" = true := by decide +kernel
theorem v_dual_of_2 : visB N_dual_of (defScope s_dual_of) 2 "n" = true := by decide +kernel
theorem l_dual_of_2 : locB N_dual_of (defScope s_dual_of) (defScope s_dual_of) 2 "n" = true := by decide +kernel
theorem v_dual_of_3 : visB N_dual_of (defScope s_dual_of) 3 "generators" = true := by decide +kernel
theorem l_dual_of_3 : locB N_dual_of (defScope s_dual_of) (defScope s_dual_of) 3 "generators" = true := by decide +kernel
theorem l_dual_of_4 : locB N_dual_of (defScope s_dual_of) (defScope s_dual_of) 4 "index" = true := by decide +kernel
theorem v_dual_of_5 : visB N_dual_of (defScope s_dual_of) 5 "one" = true := by decide +kernel
theorem l_dual_of_5 : locB N_dual_of (defScope s_dual_of) (defScope s_dual_of) 5 "one" = true := by decide +kernel
theorem g_dual_of_want_small : glB (defScope s_dual_of) "want_small" = true := by decide +kernel
theorem g_dual_of_enumerate : glB (defScope s_dual_of) "enumerate" = true := by decide +kernel
theorem g_dual_of_divides : glB (defScope s_dual_of) "divides" = true := by decide +kernel
theorem g_dual_of_components_of : glB (defScope s_dual_of) "components_of" = true := by decide +kernel
theorem g_dual_of_made : glB (defScope s_dual_of) "made" = true := by decide +kernel
set_option maxHeartbeats 4000000 in
theorem d_dual_of {sp_want_small : SpD} {sp_divides : SpD} {sp_components_of : SpD} {sp_turned : SpD} {sp_made : SpD} (T : Tx mg) (C_want_small : Cl P w K mg base "want_small" 1 sp_want_small) (C_divides : Cl P w K mg base "divides" 1 sp_divides) (C_components_of : Cl P w K mg base "components_of" 4 sp_components_of) (C_turned : Cl P w K mg base "turned" 1 sp_turned) (C_made : Cl P w K mg base "made" 3 sp_made) : ∀ X, Cok P w K mg base X N_dual_of (defScope s_dual_of) (defScope s_dual_of) 4 → DSs X (defBody s_dual_of) (rd_dual_of sp_want_small sp_divides sp_components_of sp_turned sp_made) := fun X c =>
  (ds_cons (ds_expr (de_callC c g_dual_of_want_small C_want_small (by decide) (da_cons (de_var c v_dual_of_0) da_nil)))
  (ds_cons (ds_asg c (de_var c v_dual_of_0) (dg_tup c (dgs_cons (dg_name c l_dual_of_2) (dgs_cons (dg_name c l_dual_of_3) dgs_nil))) rfl rfl)
  (ds_cons (ds_for c (di_enum c g_dual_of_enumerate T.b_enumerate (da_cons (de_var c v_dual_of_3) da_nil)) (dg_tup c (dgs_cons (dg_name c l_dual_of_4) (dgs_cons (dg_name c l_dual_of_5) dgs_nil))) (ds_one (ds_if (dt_not (dt_val (de_callC c g_dual_of_divides C_divides (by decide) (da_cons (de_var c v_dual_of_5) (da_cons (de_var c v_dual_of_1) da_nil))))) (ds_one ds_never) ds_nil)))
  (ds_one (ds_ret (de_callC c g_dual_of_made C_made (by decide) (da_cons (de_var c v_dual_of_2) (da_cons (de_lc false [("part", 6)] c (by decide +kernel) (by decide) (di_seq (de_callC c g_dual_of_components_of C_components_of (by decide) (da_cons (de_var c v_dual_of_2) (da_cons (de_var c v_dual_of_3) da_nil)))) (fun _ c1 => (dg_name c1 (by decide +kernel))) (fun _ c1 => dts_nil) (fun _ c1 => (de_callC c1 (by decide +kernel) C_turned (by decide) (da_cons (de_var c1 (by decide +kernel)) (da_cons (de_var c1 (by decide +kernel)) da_nil))))) da_nil))))))))
theorem o_dual_of {sp_want_small : SpD} {sp_divides : SpD} {sp_components_of : SpD} {sp_turned : SpD} {sp_made : SpD} (T : Tx mg) (C_want_small : Cl P w K mg base "want_small" 1 sp_want_small) (C_divides : Cl P w K mg base "divides" 1 sp_divides) (C_components_of : Cl P w K mg base "components_of" 4 sp_components_of) (C_turned : Cl P w K mg base "turned" 1 sp_turned) (C_made : Cl P w K mg base "made" 3 sp_made) {f : Addr} {fd : FuncData} {sp : SpD} (Fu : Fun K "dual_of" "dual_of" s_dual_of f fd) (hm : mg "dual_of" = some (.ref f)) (len : ∀ xs st Q, sp xs st Q → xs.length = 2) (sem : ∀ xs st Q, sp xs st Q → rd_dual_of sp_want_small sp_divides sp_components_of sp_turned sp_made { nx := fun _ st' => Fg Q (.d .none) st', rt := Fg Q } (startD 7 xs) st) : Cl P w K mg base "dual_of" 5 sp :=
  ⟨f, fd, ["ideal", "c"], hm, Fu.kp, fn_ok Fu S_dual_of len (d_dual_of T C_want_small C_divides C_components_of C_turned C_made) sem, Fu.binds fun _ _ _ _ _ _ us hl => match us, hl with | [_, _], _ => rfl⟩
abbrev s_support_of : Stmt := top 7
abbrev N_support_of : List Str := ["monomial", "variable", "exponent"]
theorem S_support_of : FnScope N_support_of ["monomial"] (defScope s_support_of) := ⟨rfl, rfl, rfl, by decide +kernel, rfl, by decide +kernel, by decide +kernel⟩
theorem v_support_of_0 : visB N_support_of (defScope s_support_of) 0 "monomial" = true := by decide +kernel
theorem g_support_of_enumerate : glB (defScope s_support_of) "enumerate" = true := by decide +kernel
theorem g_support_of_tuple : glB (defScope s_support_of) "tuple" = true := by decide +kernel
set_option maxHeartbeats 4000000 in
theorem d_support_of  (T : Tx mg)  : ∀ X, Cok P w K mg base X N_support_of (defScope s_support_of) (defScope s_support_of) 0 → DSs X (defBody s_support_of) (rd_support_of) := fun X c =>
  (ds_one (ds_ret (de_ct c g_support_of_tuple T.b_tuple bt_tuple c_tuple (da_cons (de_lc false [("variable", 1), ("exponent", 2)] c (by decide +kernel) (by decide) (di_enum c g_support_of_enumerate T.b_enumerate (da_cons (de_var c v_support_of_0) da_nil)) (fun _ c1 => (dg_tup c1 (dgs_cons (dg_name c1 (by decide +kernel)) (dgs_cons (dg_name c1 (by decide +kernel)) dgs_nil)))) (fun _ c1 => (dts_one (dt_cp op_qGt rfl (de_var c1 (by decide +kernel)) de_int))) (fun _ c1 => (de_var c1 (by decide +kernel)))) da_nil))))
theorem o_support_of  (T : Tx mg)  {f : Addr} {fd : FuncData} {sp : SpD} (Fu : Fun K "support_of" "support_of" s_support_of f fd) (hm : mg "support_of" = some (.ref f)) (len : ∀ xs st Q, sp xs st Q → xs.length = 1) (sem : ∀ xs st Q, sp xs st Q → rd_support_of { nx := fun _ st' => Fg Q (.d .none) st', rt := Fg Q } (startD 3 xs) st) : Cl P w K mg base "support_of" 1 sp :=
  ⟨f, fd, ["monomial"], hm, Fu.kp, fn_ok Fu S_support_of len (d_support_of T ) sem, Fu.binds fun _ _ _ _ _ _ us hl => match us, hl with | [_], _ => rfl⟩
abbrev s_components : Stmt := top 24
abbrev N_components : List Str := ["ideal"]
theorem S_components : FnScope N_components ["ideal"] (defScope s_components) := ⟨rfl, rfl, rfl, by decide +kernel, rfl, by decide +kernel, by decide +kernel⟩
theorem v_components_0 : visB N_components (defScope s_components) 0 "ideal" = true := by decide +kernel
theorem g_components_want_small : glB (defScope s_components) "want_small" = true := by decide +kernel
theorem g_components_components_of : glB (defScope s_components) "components_of" = true := by decide +kernel
set_option maxHeartbeats 4000000 in
theorem d_components {sp_want_small : SpD} {sp_components_of : SpD} (T : Tx mg) (C_want_small : Cl P w K mg base "want_small" 1 sp_want_small) (C_components_of : Cl P w K mg base "components_of" 4 sp_components_of) : ∀ X, Cok P w K mg base X N_components (defScope s_components) (defScope s_components) 4 → DSs X (defBody s_components) (rd_components sp_want_small sp_components_of) := fun X c =>
  (ds_cons (ds_expr (de_callC c g_components_want_small C_want_small (by decide) (da_cons (de_var c v_components_0) da_nil)))
  (ds_one (ds_ret (de_callC c g_components_components_of C_components_of (by decide) (da_cons (de_ix (de_var c v_components_0) de_int (fun _ _ => rfl)) (da_cons (de_ix (de_var c v_components_0) de_int (fun _ _ => rfl)) da_nil))))))
theorem o_components {sp_want_small : SpD} {sp_components_of : SpD} (T : Tx mg) (C_want_small : Cl P w K mg base "want_small" 1 sp_want_small) (C_components_of : Cl P w K mg base "components_of" 4 sp_components_of) {f : Addr} {fd : FuncData} {sp : SpD} (Fu : Fun K "components" "components" s_components f fd) (hm : mg "components" = some (.ref f)) (len : ∀ xs st Q, sp xs st Q → xs.length = 1) (sem : ∀ xs st Q, sp xs st Q → rd_components sp_want_small sp_components_of { nx := fun _ st' => Fg Q (.d .none) st', rt := Fg Q } (startD 1 xs) st) : Cl P w K mg base "components" 5 sp :=
  ⟨f, fd, ["ideal"], hm, Fu.kp, fn_ok Fu S_components len (d_components T C_want_small C_components_of) sem, Fu.binds fun _ _ _ _ _ _ us hl => match us, hl with | [_], _ => rfl⟩
abbrev s_primes : Stmt := top 25
abbrev N_primes : List Str := ["ideal", "part"]
theorem S_primes : FnScope N_primes ["ideal"] (defScope s_primes) := ⟨rfl, rfl, rfl, by decide +kernel, rfl, by decide +kernel, by decide +kernel⟩
theorem v_primes_0 : visB N_primes (defScope s_primes) 0 "ideal" = true := by decide +kernel
theorem g_primes_components : glB (defScope s_primes) "components" = true := by decide +kernel
theorem g_primes_sorted : glB (defScope s_primes) "sorted" = true := by decide +kernel
theorem g_primes_set : glB (defScope s_primes) "set" = true := by decide +kernel
theorem g_primes_tuple : glB (defScope s_primes) "tuple" = true := by decide +kernel
set_option maxHeartbeats 4000000 in
theorem d_primes {sp_components : SpD} {sp_support_of : SpD} (T : Tx mg) (C_components : Cl P w K mg base "components" 5 sp_components) (C_support_of : Cl P w K mg base "support_of" 1 sp_support_of) : ∀ X, Cok P w K mg base X N_primes (defScope s_primes) (defScope s_primes) 5 → DSs X (defBody s_primes) (rd_primes sp_components sp_support_of) := fun X c =>
  (ds_one (ds_ret (de_ct c g_primes_tuple T.b_tuple bt_tuple c_tuple (da_cons (BS.de_sortB false c g_primes_sorted T.b_sorted g_primes_set T.b_set (de_lc false [("part", 1)] c (by decide +kernel) (by decide) (di_seq (de_callC c g_primes_components C_components (by decide) (da_cons (de_var c v_primes_0) da_nil))) (fun _ c1 => (dg_name c1 (by decide +kernel))) (fun _ c1 => dts_nil) (fun _ c1 => (de_callC c1 (by decide +kernel) C_support_of (by decide) (da_cons (de_var c1 (by decide +kernel)) da_nil))))) da_nil))))
theorem o_primes {sp_components : SpD} {sp_support_of : SpD} (T : Tx mg) (C_components : Cl P w K mg base "components" 5 sp_components) (C_support_of : Cl P w K mg base "support_of" 1 sp_support_of) {f : Addr} {fd : FuncData} {sp : SpD} (Fu : Fun K "primes" "primes" s_primes f fd) (hm : mg "primes" = some (.ref f)) (len : ∀ xs st Q, sp xs st Q → xs.length = 1) (sem : ∀ xs st Q, sp xs st Q → rd_primes sp_components sp_support_of { nx := fun _ st' => Fg Q (.d .none) st', rt := Fg Q } (startD 2 xs) st) : Cl P w K mg base "primes" 6 sp :=
  ⟨f, fd, ["ideal"], hm, Fu.kp, fn_ok Fu S_primes len (d_primes T C_components C_support_of) sem, Fu.binds fun _ _ _ _ _ _ us hl => match us, hl with | [_], _ => rfl⟩
abbrev s_minimal_primes : Stmt := top 26
abbrev N_minimal_primes : List Str := ["ideal", "line", "found", "prime", "other", "i"]
theorem S_minimal_primes : FnScope N_minimal_primes ["ideal"] (defScope s_minimal_primes) := ⟨rfl, rfl, rfl, by decide +kernel, rfl, by decide +kernel, by decide +kernel⟩
theorem v_minimal_primes_0 : visB N_minimal_primes (defScope s_minimal_primes) 0 "ideal" = true := by decide +kernel
theorem v_minimal_primes_1 : visB N_minimal_primes (defScope s_minimal_primes) 1 "line" = true := by decide +kernel
theorem l_minimal_primes_1 : locB N_minimal_primes (defScope s_minimal_primes) (defScope s_minimal_primes) 1 "line" = true := by decide +kernel
theorem v_minimal_primes_2 : visB N_minimal_primes (defScope s_minimal_primes) 2 "found" = true := by decide +kernel
theorem l_minimal_primes_2 : locB N_minimal_primes (defScope s_minimal_primes) (defScope s_minimal_primes) 2 "found" = true := by decide +kernel
theorem v_minimal_primes_3 : visB N_minimal_primes (defScope s_minimal_primes) 3 "prime" = true := by decide +kernel
theorem l_minimal_primes_3 : locB N_minimal_primes (defScope s_minimal_primes) (defScope s_minimal_primes) 3 "prime" = true := by decide +kernel
theorem g_minimal_primes_primes : glB (defScope s_minimal_primes) "primes" = true := by decide +kernel
theorem g_minimal_primes_any : glB (defScope s_minimal_primes) "any" = true := by decide +kernel
theorem g_minimal_primes_tuple : glB (defScope s_minimal_primes) "tuple" = true := by decide +kernel
set_option maxHeartbeats 4000000 in
theorem d_minimal_primes {sp_primes : SpD} (T : Tx mg) (C_primes : Cl P w K mg base "primes" 6 sp_primes) : ∀ X, Cok P w K mg base X N_minimal_primes (defScope s_minimal_primes) (defScope s_minimal_primes) 6 → DSs X (defBody s_minimal_primes) (rd_minimal_primes sp_primes) := fun X c =>
  (ds_cons (ds_asg c (de_callC c g_minimal_primes_primes C_primes (by decide) (da_cons (de_var c v_minimal_primes_0) da_nil)) (dg_name c l_minimal_primes_1) rfl rfl)
  (ds_cons (ds_asg c (de_lst true da_nil) (dg_name c l_minimal_primes_2) rfl rfl)
  (ds_cons (ds_for c (di_seq (de_var c v_minimal_primes_1)) (dg_name c l_minimal_primes_3) (ds_one (ds_if (dt_not (dt_val (de_cb c g_minimal_primes_any T.b_any bb_any (c_any c.calm) (da_cons (de_lc false [("other", 4)] c (by decide +kernel) (by decide) (di_seq (de_var c v_minimal_primes_1)) (fun _ c1 => (dg_name c1 (by decide +kernel))) (fun _ c1 => dts_nil) (fun _ c1 => (de_and (de_cp (op_qNe c1.hu64) rfl (de_var c1 (by decide +kernel)) (de_var c1 (by decide +kernel))) (de_one (de_cb c1 (by decide +kernel) T.b_all bb_all (c_all c1.calm) (da_cons (de_lc false [("i", 5)] c1 (by decide +kernel) (by decide) (di_seq (de_var c1 (by decide +kernel))) (fun _ c2 => (dg_name c2 (by decide +kernel))) (fun _ c2 => dts_nil) (fun _ c2 => (de_cp (op_qIn c2.hu65) rfl (de_var c2 (by decide +kernel)) (de_var c2 (by decide +kernel))))) da_nil)))))) da_nil)))) (ds_one (ds_expr (de_append (de_var c v_minimal_primes_2) (de_var c v_minimal_primes_3)))) ds_nil)))
  (ds_one (ds_ret (de_ct c g_minimal_primes_tuple T.b_tuple bt_tuple c_tuple (da_cons (de_var c v_minimal_primes_2) da_nil)))))))
theorem o_minimal_primes {sp_primes : SpD} (T : Tx mg) (C_primes : Cl P w K mg base "primes" 6 sp_primes) {f : Addr} {fd : FuncData} {sp : SpD} (Fu : Fun K "minimal_primes" "minimal_primes" s_minimal_primes f fd) (hm : mg "minimal_primes" = some (.ref f)) (len : ∀ xs st Q, sp xs st Q → xs.length = 1) (sem : ∀ xs st Q, sp xs st Q → rd_minimal_primes sp_primes { nx := fun _ st' => Fg Q (.d .none) st', rt := Fg Q } (startD 6 xs) st) : Cl P w K mg base "minimal_primes" 7 sp :=
  ⟨f, fd, ["ideal"], hm, Fu.kp, fn_ok Fu S_minimal_primes len (d_minimal_primes T C_primes) sem, Fu.binds fun _ _ _ _ _ _ us hl => match us, hl with | [_], _ => rfl⟩
abbrev s_dimension : Stmt := top 27
abbrev N_dimension : List Str := ["ideal", "line", "prime"]
theorem S_dimension : FnScope N_dimension ["ideal"] (defScope s_dimension) := ⟨rfl, rfl, rfl, by decide +kernel, rfl, by decide +kernel, by decide +kernel⟩
theorem v_dimension_0 : visB N_dimension (defScope s_dimension) 0 "ideal" = true := by decide +kernel
theorem v_dimension_1 : visB N_dimension (defScope s_dimension) 1 "line" = true := by decide +kernel
theorem l_dimension_1 : locB N_dimension (defScope s_dimension) (defScope s_dimension) 1 "line" = true := by decide +kernel
theorem g_dimension_primes : glB (defScope s_dimension) "primes" = true := by decide +kernel
theorem g_dimension_min : glB (defScope s_dimension) "min" = true := by decide +kernel
set_option maxHeartbeats 4000000 in
theorem d_dimension {sp_primes : SpD} (T : Tx mg) (C_primes : Cl P w K mg base "primes" 6 sp_primes) : ∀ X, Cok P w K mg base X N_dimension (defScope s_dimension) (defScope s_dimension) 6 → DSs X (defBody s_dimension) (rd_dimension sp_primes) := fun X c =>
  (ds_cons (ds_asg c (de_callC c g_dimension_primes C_primes (by decide) (da_cons (de_var c v_dimension_0) da_nil)) (dg_name c l_dimension_1) rfl rfl)
  (ds_cons (ds_if (dt_cp (op_qEq c.hu64) rfl (de_var c v_dimension_1) (de_tup da_nil)) (ds_one (ds_ret (de_neg de_int))) ds_nil)
  (ds_one (ds_ret (de_bin op_qSub (de_ix (de_var c v_dimension_0) de_int (fun _ _ => rfl)) (de_cb c g_dimension_min T.b_min bb_min (c_min1 c.calm c.hu65) (da_cons (de_lc false [("prime", 2)] c (by decide +kernel) (by decide) (di_seq (de_var c v_dimension_1)) (fun _ c1 => (dg_name c1 (by decide +kernel))) (fun _ c1 => dts_nil) (fun _ c1 => (de_cb c1 (by decide +kernel) T.b_len bb_len c_len (da_cons (de_var c1 (by decide +kernel)) da_nil)))) da_nil)))))))
theorem o_dimension {sp_primes : SpD} (T : Tx mg) (C_primes : Cl P w K mg base "primes" 6 sp_primes) {f : Addr} {fd : FuncData} {sp : SpD} (Fu : Fun K "dimension" "dimension" s_dimension f fd) (hm : mg "dimension" = some (.ref f)) (len : ∀ xs st Q, sp xs st Q → xs.length = 1) (sem : ∀ xs st Q, sp xs st Q → rd_dimension sp_primes { nx := fun _ st' => Fg Q (.d .none) st', rt := Fg Q } (startD 3 xs) st) : Cl P w K mg base "dimension" 7 sp :=
  ⟨f, fd, ["ideal"], hm, Fu.kp, fn_ok Fu S_dimension len (d_dimension T C_primes) sem, Fu.binds fun _ _ _ _ _ _ us hl => match us, hl with | [_], _ => rfl⟩
abbrev s_least_cover : Stmt := top 39
abbrev N_least_cover : List Str := ["graph", "size", "vertices"]
theorem S_least_cover : FnScope N_least_cover ["graph"] (defScope s_least_cover) := ⟨rfl, rfl, rfl, by decide +kernel, rfl, by decide +kernel, by decide +kernel⟩
theorem v_least_cover_0 : visB N_least_cover (defScope s_least_cover) 0 "graph" = true := by decide +kernel
theorem v_least_cover_1 : visB N_least_cover (defScope s_least_cover) 1 "size" = true := by decide +kernel
theorem l_least_cover_1 : locB N_least_cover (defScope s_least_cover) (defScope s_least_cover) 1 "size" = true := by decide +kernel
theorem v_least_cover_2 : visB N_least_cover (defScope s_least_cover) 2 "vertices" = true := by decide +kernel
theorem l_least_cover_2 : locB N_least_cover (defScope s_least_cover) (defScope s_least_cover) 2 "vertices" = true := by decide +kernel
theorem g_least_cover_range : glB (defScope s_least_cover) "range" = true := by decide +kernel
theorem g_least_cover_combinations : glB (defScope s_least_cover) "combinations" = true := by decide +kernel
theorem g_least_cover_is_cover : glB (defScope s_least_cover) "is_cover" = true := by decide +kernel
set_option maxHeartbeats 4000000 in
theorem d_least_cover {sp_is_cover : SpD} (T : Tx mg) (C_is_cover : Cl P w K mg base "is_cover" 1 sp_is_cover) : ∀ X, Cok P w K mg base X N_least_cover (defScope s_least_cover) (defScope s_least_cover) 1 → DSs X (defBody s_least_cover) (rd_least_cover sp_is_cover) := fun X c =>
  (ds_cons (ds_for c (di_rng1 c g_least_cover_range T.b_range (da_cons (de_bin (op_qAdd false) (de_ix (de_var c v_least_cover_0) de_int (fun _ _ => rfl)) de_int) da_nil)) (dg_name c l_least_cover_1) (ds_one (ds_for c (di_combR c g_least_cover_combinations T.m_combinations g_least_cover_range T.b_range (de_ix (de_var c v_least_cover_0) de_int (fun _ _ => rfl)) (de_var c v_least_cover_1)) (dg_name c l_least_cover_2) (ds_one (ds_if (dt_val (de_callC c g_least_cover_is_cover C_is_cover (by decide) (da_cons (de_var c v_least_cover_0) (da_cons (de_var c v_least_cover_2) da_nil)))) (ds_one (ds_ret (de_var c v_least_cover_2))) ds_nil)))))
  (ds_one (ds_ret (de_tup da_nil))))
theorem o_least_cover {sp_is_cover : SpD} (T : Tx mg) (C_is_cover : Cl P w K mg base "is_cover" 1 sp_is_cover) {f : Addr} {fd : FuncData} {sp : SpD} (Fu : Fun K "least_cover" "least_cover" s_least_cover f fd) (hm : mg "least_cover" = some (.ref f)) (len : ∀ xs st Q, sp xs st Q → xs.length = 1) (sem : ∀ xs st Q, sp xs st Q → rd_least_cover sp_is_cover { nx := fun _ st' => Fg Q (.d .none) st', rt := Fg Q } (startD 3 xs) st) : Cl P w K mg base "least_cover" 2 sp :=
  ⟨f, fd, ["graph"], hm, Fu.kp, fn_ok Fu S_least_cover len (d_least_cover T C_is_cover) sem, Fu.binds fun _ _ _ _ _ _ us hl => match us, hl with | [_], _ => rfl⟩
abbrev s_law : Stmt := top 46
abbrev N_law : List Str := ["script", "k", "m", "graph", "n", "edges", "ideal", "ones", "due", "parts", "edge", "lot", "x"]
theorem S_law : FnScope N_law ["script"] (defScope s_law) := ⟨rfl, rfl, rfl, by decide +kernel, rfl, by decide +kernel, by decide +kernel⟩
theorem v_law_0 : visB N_law (defScope s_law) 0 "script" = true := by decide +kernel
theorem v_law_1 : visB N_law (defScope s_law) 1 "k" = true := by decide +kernel
theorem l_law_1 : locB N_law (defScope s_law) (defScope s_law) 1 "k" = true := by decide +kernel
theorem v_law_2 : visB N_law (defScope s_law) 2 "m" = true := by decide +kernel
theorem l_law_2 : locB N_law (defScope s_law) (defScope s_law) 2 "m" = true := by decide +kernel
theorem v_law_3 : visB N_law (defScope s_law) 3 "graph" = true := by decide +kernel
theorem l_law_3 : locB N_law (defScope s_law) (defScope s_law) 3 "graph" = true := by decide +kernel
theorem v_law_4 : visB N_law (defScope s_law) 4 "n" = true := by decide +kernel
theorem l_law_4 : locB N_law (defScope s_law) (defScope s_law) 4 "n" = true := by decide +kernel
theorem v_law_5 : visB N_law (defScope s_law) 5 "edges" = true := by decide +kernel
theorem l_law_5 : locB N_law (defScope s_law) (defScope s_law) 5 "edges" = true := by decide +kernel
theorem v_law_6 : visB N_law (defScope s_law) 6 "ideal" = true := by decide +kernel
theorem v_law_7 : visB N_law (defScope s_law) 7 "ones" = true := by decide +kernel
theorem v_law_8 : visB N_law (defScope s_law) 8 "due" = true := by decide +kernel
theorem l_law_8 : locB N_law (defScope s_law) (defScope s_law) 8 "due" = true := by decide +kernel
theorem v_law_9 : visB N_law (defScope s_law) 9 "parts" = true := by decide +kernel
theorem g_law_len : glB (defScope s_law) "len" = true := by decide +kernel
theorem g_law_min : glB (defScope s_law) "min" = true := by decide +kernel
theorem g_law_max : glB (defScope s_law) "max" = true := by decide +kernel
theorem g_law_range : glB (defScope s_law) "range" = true := by decide +kernel
theorem g_law_law_begun : glB (defScope s_law) "_law_begun" = true := by decide +kernel
theorem g_law_law_graph : glB (defScope s_law) "_law_graph" = true := by decide +kernel
theorem g_law_edge_ideal : glB (defScope s_law) "edge_ideal" = true := by decide +kernel
theorem g_law_law_covers : glB (defScope s_law) "_law_covers" = true := by decide +kernel
theorem g_law_primes : glB (defScope s_law) "primes" = true := by decide +kernel
theorem g_law_minimal_primes : glB (defScope s_law) "minimal_primes" = true := by decide +kernel
theorem g_law_cover_ideal : glB (defScope s_law) "cover_ideal" = true := by decide +kernel
theorem g_law_dual_of : glB (defScope s_law) "dual_of" = true := by decide +kernel
theorem g_law_tuple : glB (defScope s_law) "tuple" = true := by decide +kernel
theorem g_law_sorted : glB (defScope s_law) "sorted" = true := by decide +kernel
theorem g_law_dimension : glB (defScope s_law) "dimension" = true := by decide +kernel
theorem g_law_least_cover : glB (defScope s_law) "least_cover" = true := by decide +kernel
theorem g_law_components : glB (defScope s_law) "components" = true := by decide +kernel
set_option maxHeartbeats 4000000 in
theorem d_law {sp_law_begun : SpD} {sp_law_graph : SpD} {sp_edge_ideal : SpD} {sp_law_covers : SpD} {sp_primes : SpD} {sp_minimal_primes : SpD} {sp_cover_ideal : SpD} {sp_dual_of : SpD} {sp_dimension : SpD} {sp_least_cover : SpD} {sp_components : SpD} (T : Tx mg) (C_law_begun : Cl P w K mg base "_law_begun" 1 sp_law_begun) (C_law_graph : Cl P w K mg base "_law_graph" 2 sp_law_graph) (C_edge_ideal : Cl P w K mg base "edge_ideal" 4 sp_edge_ideal) (C_law_covers : Cl P w K mg base "_law_covers" 2 sp_law_covers) (C_primes : Cl P w K mg base "primes" 6 sp_primes) (C_minimal_primes : Cl P w K mg base "minimal_primes" 7 sp_minimal_primes) (C_cover_ideal : Cl P w K mg base "cover_ideal" 4 sp_cover_ideal) (C_dual_of : Cl P w K mg base "dual_of" 5 sp_dual_of) (C_dimension : Cl P w K mg base "dimension" 7 sp_dimension) (C_least_cover : Cl P w K mg base "least_cover" 2 sp_least_cover) (C_components : Cl P w K mg base "components" 5 sp_components) : ∀ X, Cok P w K mg base X N_law (defScope s_law) (defScope s_law) 7 → DSs X (defBody s_law) (rd_law sp_law_begun sp_law_graph sp_edge_ideal sp_law_covers sp_primes sp_minimal_primes sp_cover_ideal sp_dual_of sp_dimension sp_least_cover sp_components) := fun X c =>
  (ds_cons (ds_for c (di_rng1 c g_law_range T.b_range (da_cons (de_cb c g_law_max T.b_max bb_max (c_max2 c.calm) (da_cons de_int (da_cons (de_cb c g_law_min T.b_min bb_min (c_min2 c.calm) (da_cons (de_cb c g_law_len T.b_len bb_len c_len (da_cons (de_var c v_law_0) da_nil)) (da_cons de_int da_nil))) da_nil))) da_nil)) (dg_name c l_law_1) (ds_cons (ds_asg c (de_callC c g_law_law_begun C_law_begun (by decide) (da_cons (de_var c v_law_0) (da_cons (de_var c v_law_1) da_nil))) (dg_name c l_law_2) rfl rfl)
      (ds_cons (ds_asg c (de_callC c g_law_law_graph C_law_graph (by decide) (da_cons (de_var c v_law_2) da_nil)) (dg_name c l_law_3) rfl rfl)
      (ds_cons (ds_asg c (de_var c v_law_3) (dg_tup c (dgs_cons (dg_name c l_law_4) (dgs_cons (dg_name c l_law_5) dgs_nil))) rfl rfl)
      (ds_cons (ds_par (i := 6) (j := 7) c (by decide +kernel) (da_cons (de_callC c g_law_edge_ideal C_edge_ideal (by decide) (da_cons (de_var c v_law_3) da_nil)) (da_cons (de_bin (op_qMul false) (de_tup (da_cons de_int da_nil)) (de_var c v_law_4)) da_nil)) (by kernel_rfl))
      (ds_cons (ds_asg c (de_callC c g_law_law_covers C_law_covers (by decide) (da_cons (de_var c v_law_4) (da_cons (de_var c v_law_5) da_nil))) (dg_name c l_law_8) rfl rfl)
      (ds_cons (ds_if (DW.pt (dw_or (dt_cp (op_qNe c.hu64) rfl (de_callC c g_law_primes C_primes (by decide) (da_cons (de_var c v_law_6) da_nil)) (de_var c v_law_8)) (dw_or1 (dt_cp (op_qNe c.hu64) rfl (de_callC c g_law_minimal_primes C_minimal_primes (by decide) (da_cons (de_var c v_law_6) da_nil)) (de_var c v_law_8))))) (ds_one (ds_ret de_bl)) ds_nil)
      (ds_cons (ds_if (dt_cp (op_qNe c.hu64) rfl (de_callC c g_law_cover_ideal C_cover_ideal (by decide) (da_cons (de_var c v_law_3) da_nil)) (de_callC c g_law_dual_of C_dual_of (by decide) (da_cons (de_var c v_law_6) (da_cons (de_var c v_law_7) da_nil)))) (ds_one (ds_ret de_bl)) ds_nil)
      (ds_cons (ds_if (dt_cp (op_qNe c.hu64) rfl (de_ix (de_callC c g_law_cover_ideal C_cover_ideal (by decide) (da_cons (de_var c v_law_3) da_nil)) de_int (fun _ _ => rfl)) (de_ct c g_law_tuple T.b_tuple bt_tuple c_tuple (da_cons (de_sortD false c g_law_sorted T.b_sorted (de_lc false [("lot", 11)] c (by decide +kernel) (by decide) (di_seq (de_var c v_law_8)) (fun _ c1 => (dg_name c1 (by decide +kernel))) (fun _ c1 => dts_nil) (fun _ c1 => (de_ct c1 (by decide +kernel) T.b_tuple bt_tuple c_tuple (da_cons (de_lc false [("x", 12)] c1 (by decide +kernel) (by decide) (di_rng1 c1 (by decide +kernel) T.b_range (da_cons (de_var c1 (by decide +kernel)) da_nil)) (fun _ c2 => (dg_name c2 (by decide +kernel))) (fun _ c2 => dts_nil) (fun _ c2 => (de_if (dt_cp (op_qIn c2.hu65) rfl (de_var c2 (by decide +kernel)) (de_var c2 (by decide +kernel))) de_int de_int))) da_nil))))) da_nil))) (ds_one (ds_ret de_bl)) ds_nil)
      (ds_cons (ds_if (DW.pt (dw_or (dt_cp (op_qNe c.hu64) rfl (de_callC c g_law_dimension C_dimension (by decide) (da_cons (de_var c v_law_6) da_nil)) (de_bin op_qSub (de_var c v_law_4) (de_cb c g_law_len T.b_len bb_len c_len (da_cons (de_callC c g_law_least_cover C_least_cover (by decide) (da_cons (de_var c v_law_3) da_nil)) da_nil)))) (dw_or1 (dt_cp (op_qNe c.hu64) rfl (de_cb c g_law_len T.b_len bb_len c_len (da_cons (de_callC c g_law_least_cover C_least_cover (by decide) (da_cons (de_var c v_law_3) da_nil)) da_nil)) (de_cb c g_law_min T.b_min bb_min (c_min1 c.calm c.hu65) (da_cons (de_lc false [("lot", 11)] c (by decide +kernel) (by decide) (di_seq (de_var c v_law_8)) (fun _ c1 => (dg_name c1 (by decide +kernel))) (fun _ c1 => dts_nil) (fun _ c1 => (de_cb c1 (by decide +kernel) T.b_len bb_len c_len (da_cons (de_var c1 (by decide +kernel)) da_nil)))) da_nil)))))) (ds_one (ds_ret de_bl)) ds_nil)
      (ds_one (ds_if (DW.pt (dw_and (dt_cp (op_qNe c.hu64) rfl (de_var c v_law_5) (de_tup da_nil)) (dw_and1 (dt_cp op_qLe rfl (de_cb c g_law_len T.b_len bb_len c_len (da_cons (de_var c v_law_8) da_nil)) de_int)))) (ds_cons (ds_setLc (i := 9) false [("edge", 10)] c (by decide +kernel) (by kernel_rfl) (by decide +kernel) (by decide) (di_seq (de_var c v_law_5)) (fun _ c1 => (dg_name c1 (by decide +kernel))) (fun _ c1 => dts_nil) (fun _ c1 => (de_ct c1 (by decide +kernel) T.b_tuple bt_tuple c_tuple (da_cons (de_lc false [("x", 12)] c1 (by decide +kernel) (by decide) (di_rng1 c1 (by decide +kernel) T.b_range (da_cons (de_var c1 (by decide +kernel)) da_nil)) (fun _ c2 => (dg_name c2 (by decide +kernel))) (fun _ c2 => dts_nil) (fun _ c2 => (de_if (dt_cp (op_qIn c2.hu65) rfl (de_var c2 (by decide +kernel)) (de_var c2 (by decide +kernel))) de_int de_int))) da_nil))))
          (ds_one (ds_if (dt_cp (op_qNe c.hu64) rfl (de_callC c g_law_components C_components (by decide) (da_cons (de_callC c g_law_cover_ideal C_cover_ideal (by decide) (da_cons (de_var c v_law_3) da_nil)) da_nil)) (de_ct c g_law_tuple T.b_tuple bt_tuple c_tuple (da_cons (de_sortD false c g_law_sorted T.b_sorted (de_var c v_law_9)) da_nil))) (ds_one (ds_ret de_bl)) ds_nil))) ds_nil))))))))))))
  (ds_one (ds_ret de_bl)))
end
open U UC
theorem all_mk {l : PySem.W.OpenLaw} {w : World} {K : PySem.W.Frag} {h : Heap} {mg : Str → Option Value} {fa : Addr} (X : K.In h) (G : h.Ns mainGlobals mg) (hfa : mg "law" = some (.ref fa))
    {f_law_begun : Addr} {od_law_begun an_law_begun : Option Addr} {sl_law_begun : Array (Option Value)} {oc_law_begun kV_law_begun dc_law_begun pm_law_begun cd_law_begun ct_law_begun : Value}
    (a_law_begun : PySem.W.nsIn K mainGlobals "_law_begun" = some (some (.ref f_law_begun))) (l_law_begun : K.lookup f_law_begun = some ⟨oc_law_begun, od_law_begun, .func (PySem.W.fnOf "_law_begun" "_law_begun" (defArgs s_law_begun) (defBody s_law_begun) (defScope s_law_begun) .none kV_law_begun dc_law_begun pm_law_begun an_law_begun cd_law_begun ct_law_begun), sl_law_begun⟩) (cc_law_begun : PySem.W.codeIn K cd_law_begun "_law_begun" = true) (k_law_begun : PySem.W.keepIn K (.ref f_law_begun) = true)
    {f_law_draw : Addr} {od_law_draw an_law_draw : Option Addr} {sl_law_draw : Array (Option Value)} {oc_law_draw kV_law_draw dc_law_draw pm_law_draw cd_law_draw ct_law_draw : Value}
    (a_law_draw : PySem.W.nsIn K mainGlobals "_law_draw" = some (some (.ref f_law_draw))) (l_law_draw : K.lookup f_law_draw = some ⟨oc_law_draw, od_law_draw, .func (PySem.W.fnOf "_law_draw" "_law_draw" (defArgs s_law_draw) (defBody s_law_draw) (defScope s_law_draw) .none kV_law_draw dc_law_draw pm_law_draw an_law_draw cd_law_draw ct_law_draw), sl_law_draw⟩) (cc_law_draw : PySem.W.codeIn K cd_law_draw "_law_draw" = true) (k_law_draw : PySem.W.keepIn K (.ref f_law_draw) = true)
    {f_law_graph : Addr} {od_law_graph an_law_graph : Option Addr} {sl_law_graph : Array (Option Value)} {oc_law_graph kV_law_graph dc_law_graph pm_law_graph cd_law_graph ct_law_graph : Value}
    (a_law_graph : PySem.W.nsIn K mainGlobals "_law_graph" = some (some (.ref f_law_graph))) (l_law_graph : K.lookup f_law_graph = some ⟨oc_law_graph, od_law_graph, .func (PySem.W.fnOf "_law_graph" "_law_graph" (defArgs s_law_graph) (defBody s_law_graph) (defScope s_law_graph) .none kV_law_graph dc_law_graph pm_law_graph an_law_graph cd_law_graph ct_law_graph), sl_law_graph⟩) (cc_law_graph : PySem.W.codeIn K cd_law_graph "_law_graph" = true) (k_law_graph : PySem.W.keepIn K (.ref f_law_graph) = true)
    {f_law_subsets : Addr} {od_law_subsets an_law_subsets : Option Addr} {sl_law_subsets : Array (Option Value)} {oc_law_subsets kV_law_subsets dc_law_subsets pm_law_subsets cd_law_subsets ct_law_subsets : Value}
    (a_law_subsets : PySem.W.nsIn K mainGlobals "_law_subsets" = some (some (.ref f_law_subsets))) (l_law_subsets : K.lookup f_law_subsets = some ⟨oc_law_subsets, od_law_subsets, .func (PySem.W.fnOf "_law_subsets" "_law_subsets" (defArgs s_law_subsets) (defBody s_law_subsets) (defScope s_law_subsets) .none kV_law_subsets dc_law_subsets pm_law_subsets an_law_subsets cd_law_subsets ct_law_subsets), sl_law_subsets⟩) (cc_law_subsets : PySem.W.codeIn K cd_law_subsets "_law_subsets" = true) (k_law_subsets : PySem.W.keepIn K (.ref f_law_subsets) = true)
    {f_law_covers : Addr} {od_law_covers an_law_covers : Option Addr} {sl_law_covers : Array (Option Value)} {oc_law_covers kV_law_covers dc_law_covers pm_law_covers cd_law_covers ct_law_covers : Value}
    (a_law_covers : PySem.W.nsIn K mainGlobals "_law_covers" = some (some (.ref f_law_covers))) (l_law_covers : K.lookup f_law_covers = some ⟨oc_law_covers, od_law_covers, .func (PySem.W.fnOf "_law_covers" "_law_covers" (defArgs s_law_covers) (defBody s_law_covers) (defScope s_law_covers) .none kV_law_covers dc_law_covers pm_law_covers an_law_covers cd_law_covers ct_law_covers), sl_law_covers⟩) (cc_law_covers : PySem.W.codeIn K cd_law_covers "_law_covers" = true) (k_law_covers : PySem.W.keepIn K (.ref f_law_covers) = true)
    {f_divides : Addr} {od_divides an_divides : Option Addr} {sl_divides : Array (Option Value)} {oc_divides kV_divides dc_divides pm_divides cd_divides ct_divides : Value}
    (a_divides : PySem.W.nsIn K mainGlobals "divides" = some (some (.ref f_divides))) (l_divides : K.lookup f_divides = some ⟨oc_divides, od_divides, .func (PySem.W.fnOf "divides" "divides" (defArgs s_divides) (defBody s_divides) (defScope s_divides) .none kV_divides dc_divides pm_divides an_divides cd_divides ct_divides), sl_divides⟩) (cc_divides : PySem.W.codeIn K cd_divides "divides" = true) (k_divides : PySem.W.keepIn K (.ref f_divides) = true)
    {f_least_ones : Addr} {od_least_ones an_least_ones : Option Addr} {sl_least_ones : Array (Option Value)} {oc_least_ones kV_least_ones dc_least_ones pm_least_ones cd_least_ones ct_least_ones : Value}
    (a_least_ones : PySem.W.nsIn K mainGlobals "least_ones" = some (some (.ref f_least_ones))) (l_least_ones : K.lookup f_least_ones = some ⟨oc_least_ones, od_least_ones, .func (PySem.W.fnOf "least_ones" "least_ones" (defArgs s_least_ones) (defBody s_least_ones) (defScope s_least_ones) .none kV_least_ones dc_least_ones pm_least_ones an_least_ones cd_least_ones ct_least_ones), sl_least_ones⟩) (cc_least_ones : PySem.W.codeIn K cd_least_ones "least_ones" = true) (k_least_ones : PySem.W.keepIn K (.ref f_least_ones) = true)
    {f_made : Addr} {od_made an_made : Option Addr} {sl_made : Array (Option Value)} {oc_made kV_made dc_made pm_made cd_made ct_made : Value}
    (a_made : PySem.W.nsIn K mainGlobals "made" = some (some (.ref f_made))) (l_made : K.lookup f_made = some ⟨oc_made, od_made, .func (PySem.W.fnOf "made" "made" (defArgs s_made) (defBody s_made) (defScope s_made) .none kV_made dc_made pm_made an_made cd_made ct_made), sl_made⟩) (cc_made : PySem.W.codeIn K cd_made "made" = true) (k_made : PySem.W.keepIn K (.ref f_made) = true)
    {f_product_of_vertices : Addr} {od_product_of_vertices an_product_of_vertices : Option Addr} {sl_product_of_vertices : Array (Option Value)} {oc_product_of_vertices kV_product_of_vertices dc_product_of_vertices pm_product_of_vertices cd_product_of_vertices ct_product_of_vertices : Value}
    (a_product_of_vertices : PySem.W.nsIn K mainGlobals "product_of_vertices" = some (some (.ref f_product_of_vertices))) (l_product_of_vertices : K.lookup f_product_of_vertices = some ⟨oc_product_of_vertices, od_product_of_vertices, .func (PySem.W.fnOf "product_of_vertices" "product_of_vertices" (defArgs s_product_of_vertices) (defBody s_product_of_vertices) (defScope s_product_of_vertices) .none kV_product_of_vertices dc_product_of_vertices pm_product_of_vertices an_product_of_vertices cd_product_of_vertices ct_product_of_vertices), sl_product_of_vertices⟩) (cc_product_of_vertices : PySem.W.codeIn K cd_product_of_vertices "product_of_vertices" = true) (k_product_of_vertices : PySem.W.keepIn K (.ref f_product_of_vertices) = true)
    {f_edge_ideal : Addr} {od_edge_ideal an_edge_ideal : Option Addr} {sl_edge_ideal : Array (Option Value)} {oc_edge_ideal kV_edge_ideal dc_edge_ideal pm_edge_ideal cd_edge_ideal ct_edge_ideal : Value}
    (a_edge_ideal : PySem.W.nsIn K mainGlobals "edge_ideal" = some (some (.ref f_edge_ideal))) (l_edge_ideal : K.lookup f_edge_ideal = some ⟨oc_edge_ideal, od_edge_ideal, .func (PySem.W.fnOf "edge_ideal" "edge_ideal" (defArgs s_edge_ideal) (defBody s_edge_ideal) (defScope s_edge_ideal) .none kV_edge_ideal dc_edge_ideal pm_edge_ideal an_edge_ideal cd_edge_ideal ct_edge_ideal), sl_edge_ideal⟩) (cc_edge_ideal : PySem.W.codeIn K cd_edge_ideal "edge_ideal" = true) (k_edge_ideal : PySem.W.keepIn K (.ref f_edge_ideal) = true)
    {f_neighbours_of : Addr} {od_neighbours_of an_neighbours_of : Option Addr} {sl_neighbours_of : Array (Option Value)} {oc_neighbours_of kV_neighbours_of dc_neighbours_of pm_neighbours_of cd_neighbours_of ct_neighbours_of : Value}
    (a_neighbours_of : PySem.W.nsIn K mainGlobals "neighbours_of" = some (some (.ref f_neighbours_of))) (l_neighbours_of : K.lookup f_neighbours_of = some ⟨oc_neighbours_of, od_neighbours_of, .func (PySem.W.fnOf "neighbours_of" "neighbours_of" (defArgs s_neighbours_of) (defBody s_neighbours_of) (defScope s_neighbours_of) .none kV_neighbours_of dc_neighbours_of pm_neighbours_of an_neighbours_of cd_neighbours_of ct_neighbours_of), sl_neighbours_of⟩) (cc_neighbours_of : PySem.W.codeIn K cd_neighbours_of "neighbours_of" = true) (k_neighbours_of : PySem.W.keepIn K (.ref f_neighbours_of) = true)
    {f_is_cover : Addr} {od_is_cover an_is_cover : Option Addr} {sl_is_cover : Array (Option Value)} {oc_is_cover kV_is_cover dc_is_cover pm_is_cover cd_is_cover ct_is_cover : Value}
    (a_is_cover : PySem.W.nsIn K mainGlobals "is_cover" = some (some (.ref f_is_cover))) (l_is_cover : K.lookup f_is_cover = some ⟨oc_is_cover, od_is_cover, .func (PySem.W.fnOf "is_cover" "is_cover" (defArgs s_is_cover) (defBody s_is_cover) (defScope s_is_cover) .none kV_is_cover dc_is_cover pm_is_cover an_is_cover cd_is_cover ct_is_cover), sl_is_cover⟩) (cc_is_cover : PySem.W.codeIn K cd_is_cover "is_cover" = true) (k_is_cover : PySem.W.keepIn K (.ref f_is_cover) = true)
    {f_is_least_cover : Addr} {od_is_least_cover an_is_least_cover : Option Addr} {sl_is_least_cover : Array (Option Value)} {oc_is_least_cover kV_is_least_cover dc_is_least_cover pm_is_least_cover cd_is_least_cover ct_is_least_cover : Value}
    (a_is_least_cover : PySem.W.nsIn K mainGlobals "is_least_cover" = some (some (.ref f_is_least_cover))) (l_is_least_cover : K.lookup f_is_least_cover = some ⟨oc_is_least_cover, od_is_least_cover, .func (PySem.W.fnOf "is_least_cover" "is_least_cover" (defArgs s_is_least_cover) (defBody s_is_least_cover) (defScope s_is_least_cover) .none kV_is_least_cover dc_is_least_cover pm_is_least_cover an_is_least_cover cd_is_least_cover ct_is_least_cover), sl_is_least_cover⟩) (cc_is_least_cover : PySem.W.codeIn K cd_is_least_cover "is_least_cover" = true) (k_is_least_cover : PySem.W.keepIn K (.ref f_is_least_cover) = true)
    {f_cover_ideal : Addr} {od_cover_ideal an_cover_ideal : Option Addr} {sl_cover_ideal : Array (Option Value)} {oc_cover_ideal kV_cover_ideal dc_cover_ideal pm_cover_ideal cd_cover_ideal ct_cover_ideal : Value}
    (a_cover_ideal : PySem.W.nsIn K mainGlobals "cover_ideal" = some (some (.ref f_cover_ideal))) (l_cover_ideal : K.lookup f_cover_ideal = some ⟨oc_cover_ideal, od_cover_ideal, .func (PySem.W.fnOf "cover_ideal" "cover_ideal" (defArgs s_cover_ideal) (defBody s_cover_ideal) (defScope s_cover_ideal) .none kV_cover_ideal dc_cover_ideal pm_cover_ideal an_cover_ideal cd_cover_ideal ct_cover_ideal), sl_cover_ideal⟩) (cc_cover_ideal : PySem.W.codeIn K cd_cover_ideal "cover_ideal" = true) (k_cover_ideal : PySem.W.keepIn K (.ref f_cover_ideal) = true)
    {f_want_small : Addr} {od_want_small an_want_small : Option Addr} {sl_want_small : Array (Option Value)} {oc_want_small kV_want_small dc_want_small pm_want_small cd_want_small ct_want_small : Value}
    (a_want_small : PySem.W.nsIn K mainGlobals "want_small" = some (some (.ref f_want_small))) (l_want_small : K.lookup f_want_small = some ⟨oc_want_small, od_want_small, .func (PySem.W.fnOf "want_small" "want_small" (defArgs s_want_small) (defBody s_want_small) (defScope s_want_small) .none kV_want_small dc_want_small pm_want_small an_want_small cd_want_small ct_want_small), sl_want_small⟩) (cc_want_small : PySem.W.codeIn K cd_want_small "want_small" = true) (k_want_small : PySem.W.keepIn K (.ref f_want_small) = true)
    {f_turned : Addr} {od_turned an_turned : Option Addr} {sl_turned : Array (Option Value)} {oc_turned kV_turned dc_turned pm_turned cd_turned ct_turned : Value}
    (a_turned : PySem.W.nsIn K mainGlobals "turned" = some (some (.ref f_turned))) (l_turned : K.lookup f_turned = some ⟨oc_turned, od_turned, .func (PySem.W.fnOf "turned" "turned" (defArgs s_turned) (defBody s_turned) (defScope s_turned) .none kV_turned dc_turned pm_turned an_turned cd_turned ct_turned), sl_turned⟩) (cc_turned : PySem.W.codeIn K cd_turned "turned" = true) (k_turned : PySem.W.keepIn K (.ref f_turned) = true)
    {f_holds : Addr} {od_holds an_holds : Option Addr} {sl_holds : Array (Option Value)} {oc_holds kV_holds dc_holds pm_holds cd_holds ct_holds : Value}
    (a_holds : PySem.W.nsIn K mainGlobals "holds" = some (some (.ref f_holds))) (l_holds : K.lookup f_holds = some ⟨oc_holds, od_holds, .func (PySem.W.fnOf "holds" "holds" (defArgs s_holds) (defBody s_holds) (defScope s_holds) .none kV_holds dc_holds pm_holds an_holds cd_holds ct_holds), sl_holds⟩) (cc_holds : PySem.W.codeIn K cd_holds "holds" = true) (k_holds : PySem.W.keepIn K (.ref f_holds) = true)
    {f_powers_of : Addr} {od_powers_of an_powers_of : Option Addr} {sl_powers_of : Array (Option Value)} {oc_powers_of kV_powers_of dc_powers_of pm_powers_of cd_powers_of ct_powers_of : Value}
    (a_powers_of : PySem.W.nsIn K mainGlobals "powers_of" = some (some (.ref f_powers_of))) (l_powers_of : K.lookup f_powers_of = some ⟨oc_powers_of, od_powers_of, .func (PySem.W.fnOf "powers_of" "powers_of" (defArgs s_powers_of) (defBody s_powers_of) (defScope s_powers_of) .none kV_powers_of dc_powers_of pm_powers_of an_powers_of cd_powers_of ct_powers_of), sl_powers_of⟩) (cc_powers_of : PySem.W.codeIn K cd_powers_of "powers_of" = true) (k_powers_of : PySem.W.keepIn K (.ref f_powers_of) = true)
    {f_is_around : Addr} {od_is_around an_is_around : Option Addr} {sl_is_around : Array (Option Value)} {oc_is_around kV_is_around dc_is_around pm_is_around cd_is_around ct_is_around : Value}
    (a_is_around : PySem.W.nsIn K mainGlobals "is_around" = some (some (.ref f_is_around))) (l_is_around : K.lookup f_is_around = some ⟨oc_is_around, od_is_around, .func (PySem.W.fnOf "is_around" "is_around" (defArgs s_is_around) (defBody s_is_around) (defScope s_is_around) .none kV_is_around dc_is_around pm_is_around an_is_around cd_is_around ct_is_around), sl_is_around⟩) (cc_is_around : PySem.W.codeIn K cd_is_around "is_around" = true) (k_is_around : PySem.W.keepIn K (.ref f_is_around) = true)
    {f_without_idle : Addr} {od_without_idle an_without_idle : Option Addr} {sl_without_idle : Array (Option Value)} {oc_without_idle kV_without_idle dc_without_idle pm_without_idle cd_without_idle ct_without_idle : Value}
    (a_without_idle : PySem.W.nsIn K mainGlobals "without_idle" = some (some (.ref f_without_idle))) (l_without_idle : K.lookup f_without_idle = some ⟨oc_without_idle, od_without_idle, .func (PySem.W.fnOf "without_idle" "without_idle" (defArgs s_without_idle) (defBody s_without_idle) (defScope s_without_idle) .none kV_without_idle dc_without_idle pm_without_idle an_without_idle cd_without_idle ct_without_idle), sl_without_idle⟩) (cc_without_idle : PySem.W.codeIn K cd_without_idle "without_idle" = true) (k_without_idle : PySem.W.keepIn K (.ref f_without_idle) = true)
    {f_split : Addr} {od_split an_split : Option Addr} {sl_split : Array (Option Value)} {oc_split kV_split dc_split pm_split cd_split ct_split : Value}
    (a_split : PySem.W.nsIn K mainGlobals "split" = some (some (.ref f_split))) (l_split : K.lookup f_split = some ⟨oc_split, od_split, .func (PySem.W.fnOf "split" "split" (defArgs s_split) (defBody s_split) (defScope s_split) .none kV_split dc_split pm_split an_split cd_split ct_split), sl_split⟩) (cc_split : PySem.W.codeIn K cd_split "split" = true) (k_split : PySem.W.keepIn K (.ref f_split) = true)
    {f_components_of : Addr} {od_components_of an_components_of : Option Addr} {sl_components_of : Array (Option Value)} {oc_components_of kV_components_of dc_components_of pm_components_of cd_components_of ct_components_of : Value}
    (a_components_of : PySem.W.nsIn K mainGlobals "components_of" = some (some (.ref f_components_of))) (l_components_of : K.lookup f_components_of = some ⟨oc_components_of, od_components_of, .func (PySem.W.fnOf "components_of" "components_of" (defArgs s_components_of) (defBody s_components_of) (defScope s_components_of) .none kV_components_of dc_components_of pm_components_of an_components_of cd_components_of ct_components_of), sl_components_of⟩) (cc_components_of : PySem.W.codeIn K cd_components_of "components_of" = true) (k_components_of : PySem.W.keepIn K (.ref f_components_of) = true)
    {f_dual_of : Addr} {od_dual_of an_dual_of : Option Addr} {sl_dual_of : Array (Option Value)} {oc_dual_of kV_dual_of dc_dual_of pm_dual_of cd_dual_of ct_dual_of : Value}
    (a_dual_of : PySem.W.nsIn K mainGlobals "dual_of" = some (some (.ref f_dual_of))) (l_dual_of : K.lookup f_dual_of = some ⟨oc_dual_of, od_dual_of, .func (PySem.W.fnOf "dual_of" "dual_of" (defArgs s_dual_of) (defBody s_dual_of) (defScope s_dual_of) .none kV_dual_of dc_dual_of pm_dual_of an_dual_of cd_dual_of ct_dual_of), sl_dual_of⟩) (cc_dual_of : PySem.W.codeIn K cd_dual_of "dual_of" = true) (k_dual_of : PySem.W.keepIn K (.ref f_dual_of) = true)
    {f_support_of : Addr} {od_support_of an_support_of : Option Addr} {sl_support_of : Array (Option Value)} {oc_support_of kV_support_of dc_support_of pm_support_of cd_support_of ct_support_of : Value}
    (a_support_of : PySem.W.nsIn K mainGlobals "support_of" = some (some (.ref f_support_of))) (l_support_of : K.lookup f_support_of = some ⟨oc_support_of, od_support_of, .func (PySem.W.fnOf "support_of" "support_of" (defArgs s_support_of) (defBody s_support_of) (defScope s_support_of) .none kV_support_of dc_support_of pm_support_of an_support_of cd_support_of ct_support_of), sl_support_of⟩) (cc_support_of : PySem.W.codeIn K cd_support_of "support_of" = true) (k_support_of : PySem.W.keepIn K (.ref f_support_of) = true)
    {f_components : Addr} {od_components an_components : Option Addr} {sl_components : Array (Option Value)} {oc_components kV_components dc_components pm_components cd_components ct_components : Value}
    (a_components : PySem.W.nsIn K mainGlobals "components" = some (some (.ref f_components))) (l_components : K.lookup f_components = some ⟨oc_components, od_components, .func (PySem.W.fnOf "components" "components" (defArgs s_components) (defBody s_components) (defScope s_components) .none kV_components dc_components pm_components an_components cd_components ct_components), sl_components⟩) (cc_components : PySem.W.codeIn K cd_components "components" = true) (k_components : PySem.W.keepIn K (.ref f_components) = true)
    {f_primes : Addr} {od_primes an_primes : Option Addr} {sl_primes : Array (Option Value)} {oc_primes kV_primes dc_primes pm_primes cd_primes ct_primes : Value}
    (a_primes : PySem.W.nsIn K mainGlobals "primes" = some (some (.ref f_primes))) (l_primes : K.lookup f_primes = some ⟨oc_primes, od_primes, .func (PySem.W.fnOf "primes" "primes" (defArgs s_primes) (defBody s_primes) (defScope s_primes) .none kV_primes dc_primes pm_primes an_primes cd_primes ct_primes), sl_primes⟩) (cc_primes : PySem.W.codeIn K cd_primes "primes" = true) (k_primes : PySem.W.keepIn K (.ref f_primes) = true)
    {f_minimal_primes : Addr} {od_minimal_primes an_minimal_primes : Option Addr} {sl_minimal_primes : Array (Option Value)} {oc_minimal_primes kV_minimal_primes dc_minimal_primes pm_minimal_primes cd_minimal_primes ct_minimal_primes : Value}
    (a_minimal_primes : PySem.W.nsIn K mainGlobals "minimal_primes" = some (some (.ref f_minimal_primes))) (l_minimal_primes : K.lookup f_minimal_primes = some ⟨oc_minimal_primes, od_minimal_primes, .func (PySem.W.fnOf "minimal_primes" "minimal_primes" (defArgs s_minimal_primes) (defBody s_minimal_primes) (defScope s_minimal_primes) .none kV_minimal_primes dc_minimal_primes pm_minimal_primes an_minimal_primes cd_minimal_primes ct_minimal_primes), sl_minimal_primes⟩) (cc_minimal_primes : PySem.W.codeIn K cd_minimal_primes "minimal_primes" = true) (k_minimal_primes : PySem.W.keepIn K (.ref f_minimal_primes) = true)
    {f_dimension : Addr} {od_dimension an_dimension : Option Addr} {sl_dimension : Array (Option Value)} {oc_dimension kV_dimension dc_dimension pm_dimension cd_dimension ct_dimension : Value}
    (a_dimension : PySem.W.nsIn K mainGlobals "dimension" = some (some (.ref f_dimension))) (l_dimension : K.lookup f_dimension = some ⟨oc_dimension, od_dimension, .func (PySem.W.fnOf "dimension" "dimension" (defArgs s_dimension) (defBody s_dimension) (defScope s_dimension) .none kV_dimension dc_dimension pm_dimension an_dimension cd_dimension ct_dimension), sl_dimension⟩) (cc_dimension : PySem.W.codeIn K cd_dimension "dimension" = true) (k_dimension : PySem.W.keepIn K (.ref f_dimension) = true)
    {f_least_cover : Addr} {od_least_cover an_least_cover : Option Addr} {sl_least_cover : Array (Option Value)} {oc_least_cover kV_least_cover dc_least_cover pm_least_cover cd_least_cover ct_least_cover : Value}
    (a_least_cover : PySem.W.nsIn K mainGlobals "least_cover" = some (some (.ref f_least_cover))) (l_least_cover : K.lookup f_least_cover = some ⟨oc_least_cover, od_least_cover, .func (PySem.W.fnOf "least_cover" "least_cover" (defArgs s_least_cover) (defBody s_least_cover) (defScope s_least_cover) .none kV_least_cover dc_least_cover pm_least_cover an_least_cover cd_least_cover ct_least_cover), sl_least_cover⟩) (cc_least_cover : PySem.W.codeIn K cd_least_cover "least_cover" = true) (k_least_cover : PySem.W.keepIn K (.ref f_least_cover) = true)
    {f_law : Addr} {od_law an_law : Option Addr} {sl_law : Array (Option Value)} {oc_law kV_law dc_law pm_law cd_law ct_law : Value}
    (a_law : PySem.W.nsIn K mainGlobals "law" = some (some (.ref f_law))) (l_law : K.lookup f_law = some ⟨oc_law, od_law, .func (PySem.W.fnOf "law" "law" (defArgs s_law) (defBody s_law) (defScope s_law) .none kV_law dc_law pm_law an_law cd_law ct_law), sl_law⟩) (cc_law : PySem.W.codeIn K cd_law "law" = true) (k_law : PySem.W.keepIn K (.ref f_law) = true)
    (z_all : PySem.W.nsIn K mainGlobals "all" = some none)
    (z_any : PySem.W.nsIn K mainGlobals "any" = some none)
    (z_enumerate : PySem.W.nsIn K mainGlobals "enumerate" = some none)
    (z_int : PySem.W.nsIn K mainGlobals "int" = some none)
    (z_len : PySem.W.nsIn K mainGlobals "len" = some none)
    (z_list : PySem.W.nsIn K mainGlobals "list" = some none)
    (z_max : PySem.W.nsIn K mainGlobals "max" = some none)
    (z_min : PySem.W.nsIn K mainGlobals "min" = some none)
    (z_range : PySem.W.nsIn K mainGlobals "range" = some none)
    (z_set : PySem.W.nsIn K mainGlobals "set" = some none)
    (z_sorted : PySem.W.nsIn K mainGlobals "sorted" = some none)
    (z_tuple : PySem.W.nsIn K mainGlobals "tuple" = some none)
    (z_zip : PySem.W.nsIn K mainGlobals "zip" = some none)
    {t_MOST_EXPONENT : Tok} (y_MOST_EXPONENT : PySem.W.nsIn K mainGlobals "MOST_EXPONENT" = some (some (.int 60 t_MOST_EXPONENT)))
    {t_MOST_GENERATORS : Tok} (y_MOST_GENERATORS : PySem.W.nsIn K mainGlobals "MOST_GENERATORS" = some (some (.int 60 t_MOST_GENERATORS)))
    {t_SMALL_GENERATORS : Tok} (y_SMALL_GENERATORS : PySem.W.nsIn K mainGlobals "SMALL_GENERATORS" = some (some (.int 10 t_SMALL_GENERATORS)))
    {t_SMALL_VARIABLES : Tok} (y_SMALL_VARIABLES : PySem.W.nsIn K mainGlobals "SMALL_VARIABLES" = some (some (.int 8 t_SMALL_VARIABLES)))
    (x_combinations : PySem.W.nsIn K mainGlobals "combinations" = some (some (.type "itertools.combinations"))) :
    ∃ fd : FuncData, (∀ (s : Shared) (v : Value), BindsTo s fd ⟨[v], []⟩ [("script", v)]) ∧ ∀ base : Heap, K.In base → base.Ns mainGlobals mg → FnOk l.prog w K mg base CX0 8 fa fd ["script"] (hsp K sp_law) := by
  have e := hfa.symm.trans (PySem.W.mg_of X G a_law)
  cases e
  have T : Tx mg := ⟨PySem.W.mg_none_of X G z_all, PySem.W.mg_none_of X G z_any, PySem.W.mg_none_of X G z_enumerate, PySem.W.mg_none_of X G z_int, PySem.W.mg_none_of X G z_len, PySem.W.mg_none_of X G z_list, PySem.W.mg_none_of X G z_max, PySem.W.mg_none_of X G z_min, PySem.W.mg_none_of X G z_range, PySem.W.mg_none_of X G z_set, PySem.W.mg_none_of X G z_sorted, PySem.W.mg_none_of X G z_tuple, PySem.W.mg_none_of X G z_zip, ⟨_, PySem.W.mg_of X G y_MOST_EXPONENT⟩, ⟨_, PySem.W.mg_of X G y_MOST_GENERATORS⟩, ⟨_, PySem.W.mg_of X G y_SMALL_GENERATORS⟩, ⟨_, PySem.W.mg_of X G y_SMALL_VARIABLES⟩, PySem.W.mg_of X G x_combinations⟩
  refine ⟨PySem.W.fnOf "law" "law" (defArgs s_law) (defBody s_law) (defScope s_law) .none kV_law dc_law pm_law an_law cd_law ct_law, fun s v => .of_eq rfl, fun base _ _ => ?_⟩
  have C_law_begun : Cl l.prog w K mg base "_law_begun" 1 sp_law_begun := o_law_begun T  (fun_mk (st := s_law_begun) l_law_begun cc_law_begun k_law_begun) (PySem.W.mg_of X G a_law_begun) len_law_begun sem_law_begun
  have C_law_draw : Cl l.prog w K mg base "_law_draw" 1 sp_law_draw := o_law_draw T  (fun_mk (st := s_law_draw) l_law_draw cc_law_draw k_law_draw) (PySem.W.mg_of X G a_law_draw) len_law_draw sem_law_draw
  have C_law_graph : Cl l.prog w K mg base "_law_graph" 2 sp_law_graph := o_law_graph T C_law_draw (fun_mk (st := s_law_graph) l_law_graph cc_law_graph k_law_graph) (PySem.W.mg_of X G a_law_graph) len_law_graph sem_law_graph
  have C_law_subsets : Cl l.prog w K mg base "_law_subsets" 1 sp_law_subsets := o_law_subsets T  (fun_mk (st := s_law_subsets) l_law_subsets cc_law_subsets k_law_subsets) (PySem.W.mg_of X G a_law_subsets) len_law_subsets sem_law_subsets
  have C_law_covers : Cl l.prog w K mg base "_law_covers" 2 sp_law_covers := o_law_covers T C_law_subsets (fun_mk (st := s_law_covers) l_law_covers cc_law_covers k_law_covers) (PySem.W.mg_of X G a_law_covers) len_law_covers sem_law_covers
  have C_divides : Cl l.prog w K mg base "divides" 1 sp_divides := o_divides T  (fun_mk (st := s_divides) l_divides cc_divides k_divides) (PySem.W.mg_of X G a_divides) len_divides sem_divides
  have C_least_ones : Cl l.prog w K mg base "least_ones" 2 sp_least_ones := o_least_ones T C_divides (fun_mk (st := s_least_ones) l_least_ones cc_least_ones k_least_ones) (PySem.W.mg_of X G a_least_ones) len_least_ones sem_least_ones
  have C_made : Cl l.prog w K mg base "made" 3 sp_made := o_made T C_least_ones (fun_mk (st := s_made) l_made cc_made k_made) (PySem.W.mg_of X G a_made) len_made sem_made
  have C_product_of_vertices : Cl l.prog w K mg base "product_of_vertices" 1 sp_product_of_vertices := o_product_of_vertices T  (fun_mk (st := s_product_of_vertices) l_product_of_vertices cc_product_of_vertices k_product_of_vertices) (PySem.W.mg_of X G a_product_of_vertices) len_product_of_vertices sem_product_of_vertices
  have C_edge_ideal : Cl l.prog w K mg base "edge_ideal" 4 sp_edge_ideal := o_edge_ideal T C_product_of_vertices C_made (fun_mk (st := s_edge_ideal) l_edge_ideal cc_edge_ideal k_edge_ideal) (PySem.W.mg_of X G a_edge_ideal) len_edge_ideal sem_edge_ideal
  have C_neighbours_of : Cl l.prog w K mg base "neighbours_of" 1 sp_neighbours_of := o_neighbours_of T  (fun_mk (st := s_neighbours_of) l_neighbours_of cc_neighbours_of k_neighbours_of) (PySem.W.mg_of X G a_neighbours_of) len_neighbours_of sem_neighbours_of
  have C_is_cover : Cl l.prog w K mg base "is_cover" 1 sp_is_cover := o_is_cover T  (fun_mk (st := s_is_cover) l_is_cover cc_is_cover k_is_cover) (PySem.W.mg_of X G a_is_cover) len_is_cover sem_is_cover
  have C_is_least_cover : Cl l.prog w K mg base "is_least_cover" 2 sp_is_least_cover := o_is_least_cover T C_is_cover (fun_mk (st := s_is_least_cover) l_is_least_cover cc_is_least_cover k_is_least_cover) (PySem.W.mg_of X G a_is_least_cover) len_is_least_cover sem_is_least_cover
  have C_cover_ideal : Cl l.prog w K mg base "cover_ideal" 4 sp_cover_ideal := o_cover_ideal T C_neighbours_of C_is_least_cover C_product_of_vertices C_made (fun_mk (st := s_cover_ideal) l_cover_ideal cc_cover_ideal k_cover_ideal) (PySem.W.mg_of X G a_cover_ideal) len_cover_ideal sem_cover_ideal
  have C_want_small : Cl l.prog w K mg base "want_small" 1 sp_want_small := o_want_small T  (fun_mk (st := s_want_small) l_want_small cc_want_small k_want_small) (PySem.W.mg_of X G a_want_small) len_want_small sem_want_small
  have C_turned : Cl l.prog w K mg base "turned" 1 sp_turned := o_turned T  (fun_mk (st := s_turned) l_turned cc_turned k_turned) (PySem.W.mg_of X G a_turned) len_turned sem_turned
  have C_holds : Cl l.prog w K mg base "holds" 1 sp_holds := o_holds T  (fun_mk (st := s_holds) l_holds cc_holds k_holds) (PySem.W.mg_of X G a_holds) len_holds sem_holds
  have C_powers_of : Cl l.prog w K mg base "powers_of" 1 sp_powers_of := o_powers_of T  (fun_mk (st := s_powers_of) l_powers_of cc_powers_of k_powers_of) (PySem.W.mg_of X G a_powers_of) len_powers_of sem_powers_of
  have C_is_around : Cl l.prog w K mg base "is_around" 2 sp_is_around := o_is_around T C_powers_of C_holds (fun_mk (st := s_is_around) l_is_around cc_is_around k_is_around) (PySem.W.mg_of X G a_is_around) len_is_around sem_is_around
  have C_without_idle : Cl l.prog w K mg base "without_idle" 3 sp_without_idle := o_without_idle T C_is_around (fun_mk (st := s_without_idle) l_without_idle cc_without_idle k_without_idle) (PySem.W.mg_of X G a_without_idle) len_without_idle sem_without_idle
  have C_split : Cl l.prog w K mg base "split" 2 sp_split := o_split T C_holds (fun_mk (st := s_split) l_split cc_split k_split) (PySem.W.mg_of X G a_split) len_split sem_split
  have C_components_of : Cl l.prog w K mg base "components_of" 4 sp_components_of := o_components_of T C_split C_without_idle (fun_mk (st := s_components_of) l_components_of cc_components_of k_components_of) (PySem.W.mg_of X G a_components_of) len_components_of sem_components_of
  have C_dual_of : Cl l.prog w K mg base "dual_of" 5 sp_dual_of := o_dual_of T C_want_small C_divides C_components_of C_turned C_made (fun_mk (st := s_dual_of) l_dual_of cc_dual_of k_dual_of) (PySem.W.mg_of X G a_dual_of) len_dual_of sem_dual_of
  have C_support_of : Cl l.prog w K mg base "support_of" 1 sp_support_of := o_support_of T  (fun_mk (st := s_support_of) l_support_of cc_support_of k_support_of) (PySem.W.mg_of X G a_support_of) len_support_of sem_support_of
  have C_components : Cl l.prog w K mg base "components" 5 sp_components := o_components T C_want_small C_components_of (fun_mk (st := s_components) l_components cc_components k_components) (PySem.W.mg_of X G a_components) len_components sem_components
  have C_primes : Cl l.prog w K mg base "primes" 6 sp_primes := o_primes T C_components C_support_of (fun_mk (st := s_primes) l_primes cc_primes k_primes) (PySem.W.mg_of X G a_primes) len_primes sem_primes
  have C_minimal_primes : Cl l.prog w K mg base "minimal_primes" 7 sp_minimal_primes := o_minimal_primes T C_primes (fun_mk (st := s_minimal_primes) l_minimal_primes cc_minimal_primes k_minimal_primes) (PySem.W.mg_of X G a_minimal_primes) len_minimal_primes sem_minimal_primes
  have C_dimension : Cl l.prog w K mg base "dimension" 7 sp_dimension := o_dimension T C_primes (fun_mk (st := s_dimension) l_dimension cc_dimension k_dimension) (PySem.W.mg_of X G a_dimension) len_dimension sem_dimension
  have C_least_cover : Cl l.prog w K mg base "least_cover" 2 sp_least_cover := o_least_cover T C_is_cover (fun_mk (st := s_least_cover) l_least_cover cc_least_cover k_least_cover) (PySem.W.mg_of X G a_least_cover) len_least_cover sem_least_cover
  exact fn_ok (fun_mk (st := s_law) l_law cc_law k_law) S_law len_law (d_law T C_law_begun C_law_graph C_edge_ideal C_law_covers C_primes C_minimal_primes C_cover_ideal C_dual_of C_dimension C_least_cover C_components) sem_law
theorem walk {l : PySem.W.OpenLaw} {q : Program} {loose : List Str} {XP : (Str → Option Value) → Heap → Prop} {YP : World → Heap → Prop} {d : DefRec} {K : Params → PySem.W.Frag} (hn : l.most = some 63) (hdf : d.params.defaults = [])
    (hY : ∀ (w : World) (h : Heap), YP w h → (K w.params).In h)
    (F : ∀ (w : World) (mg : Str → Option Value) (fa : Addr) (h : Heap), (K w.params).In h → h.Ns mainGlobals mg → mg d.name = some (.ref fa) →
      ∃ fd : FuncData, (∀ (s : Shared) (u : Value), BindsTo s fd ⟨[u], []⟩ [("script", u)]) ∧ ∀ base : Heap, (K w.params).In base → base.Ns mainGlobals mg → FnOk l.prog w (K w.params) mg base CX0 8 fa fd ["script"] (hsp (K w.params) sp_law)) :
    PySem.W.WalkO q loose XP YP l.row.toRowW d [] (fun f vs => PySem.call f vs) :=
  L2.walk_of (n := 63) (k := 8) (x := "script") (CX := fun _ => CX0) (sp := fun w => hsp (K w.params) sp_law) hn (by decide) hdf ⟨rfl, by decide, by decide⟩ hY F (fun w H a ns hl hb hS => law_start U.law_true hl hb hS) fun _ _ _ _ _ z => z
end GD
open PySem PySem.W PyProof.Rows in
set_option maxRecDepth 100000 in
set_option maxHeartbeats 0 in
theorem PySem.Challenge.cw_jointneeds_k25_whole_covers_and_duals_holds : PySem.Challenge.rw_jointneeds_k25_whole_covers_and_duals.Holds := by
  refine head_k25 ?_
  k_fill
  refine GD.walk (l := PySem.Challenge.rw_jointneeds_k25_whole_covers_and_duals) rfl rfl (fun w h Y => PySem.W.kIn_of Y) ?F
  case F =>
    intro w mg fa h KX G hmg
    refine' GD.all_mk KX G hmg ?a_law_begun ?l_law_begun ?cc_law_begun ?k_law_begun ?a_law_draw ?l_law_draw ?cc_law_draw ?k_law_draw ?a_law_graph ?l_law_graph ?cc_law_graph ?k_law_graph ?a_law_subsets ?l_law_subsets ?cc_law_subsets ?k_law_subsets ?a_law_covers ?l_law_covers ?cc_law_covers ?k_law_covers ?a_divides ?l_divides ?cc_divides ?k_divides ?a_least_ones ?l_least_ones ?cc_least_ones ?k_least_ones ?a_made ?l_made ?cc_made ?k_made ?a_product_of_vertices ?l_product_of_vertices ?cc_product_of_vertices ?k_product_of_vertices ?a_edge_ideal ?l_edge_ideal ?cc_edge_ideal ?k_edge_ideal ?a_neighbours_of ?l_neighbours_of ?cc_neighbours_of ?k_neighbours_of ?a_is_cover ?l_is_cover ?cc_is_cover ?k_is_cover ?a_is_least_cover ?l_is_least_cover ?cc_is_least_cover ?k_is_least_cover ?a_cover_ideal ?l_cover_ideal ?cc_cover_ideal ?k_cover_ideal ?a_want_small ?l_want_small ?cc_want_small ?k_want_small ?a_turned ?l_turned ?cc_turned ?k_turned ?a_holds ?l_holds ?cc_holds ?k_holds ?a_powers_of ?l_powers_of ?cc_powers_of ?k_powers_of ?a_is_around ?l_is_around ?cc_is_around ?k_is_around ?a_without_idle ?l_without_idle ?cc_without_idle ?k_without_idle ?a_split ?l_split ?cc_split ?k_split ?a_components_of ?l_components_of ?cc_components_of ?k_components_of ?a_dual_of ?l_dual_of ?cc_dual_of ?k_dual_of ?a_support_of ?l_support_of ?cc_support_of ?k_support_of ?a_components ?l_components ?cc_components ?k_components ?a_primes ?l_primes ?cc_primes ?k_primes ?a_minimal_primes ?l_minimal_primes ?cc_minimal_primes ?k_minimal_primes ?a_dimension ?l_dimension ?cc_dimension ?k_dimension ?a_least_cover ?l_least_cover ?cc_least_cover ?k_least_cover ?a_law ?l_law ?cc_law ?k_law ?z_all ?z_any ?z_enumerate ?z_int ?z_len ?z_list ?z_max ?z_min ?z_range ?z_set ?z_sorted ?z_tuple ?z_zip ?y_MOST_EXPONENT ?y_MOST_GENERATORS ?y_SMALL_GENERATORS ?y_SMALL_VARIABLES ?x_combinations
    (case a_law_begun => k_is)
    (case l_law_begun => k_is)
    (case cc_law_begun => k_is)
    (case k_law_begun => k_is)
    (case a_law_draw => k_is)
    (case l_law_draw => k_is)
    (case cc_law_draw => k_is)
    (case k_law_draw => k_is)
    (case a_law_graph => k_is)
    (case l_law_graph => k_is)
    (case cc_law_graph => k_is)
    (case k_law_graph => k_is)
    (case a_law_subsets => k_is)
    (case l_law_subsets => k_is)
    (case cc_law_subsets => k_is)
    (case k_law_subsets => k_is)
    (case a_law_covers => k_is)
    (case l_law_covers => k_is)
    (case cc_law_covers => k_is)
    (case k_law_covers => k_is)
    (case a_divides => k_is)
    (case l_divides => k_is)
    (case cc_divides => k_is)
    (case k_divides => k_is)
    (case a_least_ones => k_is)
    (case l_least_ones => k_is)
    (case cc_least_ones => k_is)
    (case k_least_ones => k_is)
    (case a_made => k_is)
    (case l_made => k_is)
    (case cc_made => k_is)
    (case k_made => k_is)
    (case a_product_of_vertices => k_is)
    (case l_product_of_vertices => k_is)
    (case cc_product_of_vertices => k_is)
    (case k_product_of_vertices => k_is)
    (case a_edge_ideal => k_is)
    (case l_edge_ideal => k_is)
    (case cc_edge_ideal => k_is)
    (case k_edge_ideal => k_is)
    (case a_neighbours_of => k_is)
    (case l_neighbours_of => k_is)
    (case cc_neighbours_of => k_is)
    (case k_neighbours_of => k_is)
    (case a_is_cover => k_is)
    (case l_is_cover => k_is)
    (case cc_is_cover => k_is)
    (case k_is_cover => k_is)
    (case a_is_least_cover => k_is)
    (case l_is_least_cover => k_is)
    (case cc_is_least_cover => k_is)
    (case k_is_least_cover => k_is)
    (case a_cover_ideal => k_is)
    (case l_cover_ideal => k_is)
    (case cc_cover_ideal => k_is)
    (case k_cover_ideal => k_is)
    (case a_want_small => k_is)
    (case l_want_small => k_is)
    (case cc_want_small => k_is)
    (case k_want_small => k_is)
    (case a_turned => k_is)
    (case l_turned => k_is)
    (case cc_turned => k_is)
    (case k_turned => k_is)
    (case a_holds => k_is)
    (case l_holds => k_is)
    (case cc_holds => k_is)
    (case k_holds => k_is)
    (case a_powers_of => k_is)
    (case l_powers_of => k_is)
    (case cc_powers_of => k_is)
    (case k_powers_of => k_is)
    (case a_is_around => k_is)
    (case l_is_around => k_is)
    (case cc_is_around => k_is)
    (case k_is_around => k_is)
    (case a_without_idle => k_is)
    (case l_without_idle => k_is)
    (case cc_without_idle => k_is)
    (case k_without_idle => k_is)
    (case a_split => k_is)
    (case l_split => k_is)
    (case cc_split => k_is)
    (case k_split => k_is)
    (case a_components_of => k_is)
    (case l_components_of => k_is)
    (case cc_components_of => k_is)
    (case k_components_of => k_is)
    (case a_dual_of => k_is)
    (case l_dual_of => k_is)
    (case cc_dual_of => k_is)
    (case k_dual_of => k_is)
    (case a_support_of => k_is)
    (case l_support_of => k_is)
    (case cc_support_of => k_is)
    (case k_support_of => k_is)
    (case a_components => k_is)
    (case l_components => k_is)
    (case cc_components => k_is)
    (case k_components => k_is)
    (case a_primes => k_is)
    (case l_primes => k_is)
    (case cc_primes => k_is)
    (case k_primes => k_is)
    (case a_minimal_primes => k_is)
    (case l_minimal_primes => k_is)
    (case cc_minimal_primes => k_is)
    (case k_minimal_primes => k_is)
    (case a_dimension => k_is)
    (case l_dimension => k_is)
    (case cc_dimension => k_is)
    (case k_dimension => k_is)
    (case a_least_cover => k_is)
    (case l_least_cover => k_is)
    (case cc_least_cover => k_is)
    (case k_least_cover => k_is)
    (case a_law => k_is)
    (case l_law => k_is)
    (case cc_law => k_is)
    (case k_law => k_is)
    (case z_all => k_is)
    (case z_any => k_is)
    (case z_enumerate => k_is)
    (case z_int => k_is)
    (case z_len => k_is)
    (case z_list => k_is)
    (case z_max => k_is)
    (case z_min => k_is)
    (case z_range => k_is)
    (case z_set => k_is)
    (case z_sorted => k_is)
    (case z_tuple => k_is)
    (case z_zip => k_is)
    (case y_MOST_EXPONENT => k_is)
    (case y_MOST_GENERATORS => k_is)
    (case y_SMALL_GENERATORS => k_is)
    (case y_SMALL_VARIABLES => k_is)
    (case x_combinations => k_is)
end
