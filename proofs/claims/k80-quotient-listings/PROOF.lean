import PyProof.Rows.All
import Wide.All
import OpenK.AllK
import Wide.FinOn
import HandS.ForMost
import HandS.Wide
import HandS.TupMul
import HandS.IsInst
import HandS.Deep
import HandS.Flow
import HandS.Style
import HandS.TupAny
import HandS.Zip
import KE.GoesMore
import KE.KTupSum
import HandS.TupSets
import KE.DatumOrd
import HandS.Gcd
import KE.KMathGC
import HandS.Conv
import HandS.Strs
import KE.SortData
import KE.LtData
import KE.LtSeq
import PyProof.P3In
import PyProof.Rows.TupDisplay
import HandS.DictTup
import HandS.Iter
import HandS.SortKw
import PyProof.Rows.NestShow
import HandS.SetFor
import HandS.Set
import PyProof.ZipIter
import PyProof.CallType
import PyProof.Walk
import PyProof.WalkLemmas
import PyProof.RangeIter
import PyProof.RulesTry
import HandS.RepeatKit
import HandS.GenList
import HandS.ExcValue
import HandS.ExcOwn
import PyProof.Rows.RegRepr
import PySem.Challenge.RW_jointneeds_k80_quotient_listings
section
set_option Elab.async false
set_option linter.all false
set_option pp.maxSteps 200
set_option maxRecDepth 100000
set_option maxHeartbeats 0
open PySem PySem.W PyProof.Rows
open_top head_k80 for PySem.Challenge.rw_jointneeds_k80_quotient_listings
end
section
set_option Elab.async false
set_option linter.all false
set_option maxRecDepth 100000
set_option maxHeartbeats 2000000
namespace DL
open PySem L2 PyProof.Rows
inductive DV where
  | d (x : PyData)
  | r (a : Addr)
  | t (xs : List DV)
inductive MO where
  | lst (xs : List DV)
  | dK (kvs : List (Key × DV))
  | dT (kvs : List (List Key × DV))
  | ins (C : Addr) (fs : List (Str × DV))
  | lk (o : Obj) (ws : List (List Key × V)) (kvs : List (List Key × DV))
abbrev Sto := Addr → Option MO
abbrev Env := List (Option DV)
def up (s : Sto) (a : Addr) (m : MO) : Sto := fun b => if b = a then some m else s b
theorem up_same {s : Sto} {a : Addr} {m : MO} : up s a m a = some m := if_pos rfl
theorem up_ne {s : Sto} {a b : Addr} {m : MO} (h : b ≠ a) : up s a m b = s b := if_neg h
section
variable (K : PySem.W.Frag)
mutual
inductive Rp (F : Hp) : V → PyData → Prop
  | non : Rp F .non .none
  | bl (b : Bool) : Rp F (.bl b) (.bool b)
  | int (i : Int) : Rp F (.int i) (.int i)
  | str (x : Str) : Rp F (.str x) (.str x)
  | lst {a : Addr} {xs : List V} {ds : List PyData} : SqL K F a xs → RpAll F xs ds → Rp F (.ref a) (.list ds)
  | tup {a : Addr} {xs : List V} {ds : List PyData} : F a = some (.tup xs) → RpAll F xs ds → Rp F (.ref a) (.tuple ds)
inductive RpAll (F : Hp) : List V → List PyData → Prop
  | nil : RpAll F [] []
  | cons {v : V} {vs : List V} {d : PyData} {ds : List PyData} : Rp F v d → RpAll F vs ds → RpAll F (v :: vs) (d :: ds)
end
mutual
inductive RV (F : Hp) : V → DV → Prop
  | d {v : V} {x : PyData} : Rp K F v x → RV F v (.d x)
  | r (a : Addr) : RV F (.ref a) (.r a)
  | t {a : Addr} {vs : List V} {xs : List DV} : F a = some (.tup vs) → RVs F vs xs → RV F (.ref a) (.t xs)
inductive RVs (F : Hp) : List V → List DV → Prop
  | nil : RVs F [] []
  | cons {v : V} {vs : List V} {x : DV} {xs : List DV} : RV F v x → RVs F vs xs → RVs F (v :: vs) (x :: xs)
end
def MOk (F H : Hp) (a : Addr) : MO → Prop
  | .lst xs => ∃ vs, H a = some (.lst vs) ∧ RVs K F vs xs
  | .dK kvs => ∃ ws, H a = some (.dK ws) ∧ Paired (fun p q => p.1 = q.1 ∧ RV K F p.2 q.2) ws kvs
  | .dT kvs => ∃ ws, H a = some (.dT ws) ∧ Paired (fun p q => p.1 = q.1 ∧ RV K F p.2 q.2) ws kvs
  | .ins C fs => ∃ dx ws, H a = some (.ins C dx ws) ∧ Paired (fun p q => p.1 = q.1 ∧ RV K F p.2 q.2) ws fs
  | .lk o ws kvs => H a = some (.frz o (.dT ws)) ∧ Paired (fun p q => p.1 = q.1 ∧ RV K F p.2 q.2) ws kvs
structure Rs (F H : Hp) (st : Sto) : Prop where
  sub : ∀ a o, F a = some o → H a = some o ∧ st a = none
  ok : ∀ a m, st a = some m → MOk K F H a m
def RE (F : Hp) (σ : L2.St) (ε : Env) : Prop := σ.length = ε.length ∧ ∀ (i : Nat) (x : DV), ε[i]? = some (some x) → ∃ v, σ[i]? = some (some v) ∧ RV K F v x
end
structure Step (F H : Hp) (st : Sto) (F' H' : Hp) (st' : Sto) : Prop where
  ex : ∀ a o, F a = some o → F' a = some o
  pres : ∀ a o, H a = some o → st a = none → H' a = some o ∧ st' a = none
  fnew : ∀ a o, F' a = some o → F a ≠ none ∨ H a = none ∨ st a ≠ none ∨ ∃ ts, H a = some (.tup ts)
theorem Step.refl (F H : Hp) (st : Sto) : Step F H st F H st := ⟨fun _ _ h => h, fun _ _ h k => ⟨h, k⟩, fun a o h => .inl (by rw [h]; exact fun q => nomatch q)⟩
theorem Step.trans {F H : Hp} {st : Sto} {F1 H1 : Hp} {st1 : Sto} {F2 H2 : Hp} {st2 : Sto} (a : Step F H st F1 H1 st1) (b : Step F1 H1 st1 F2 H2 st2) : Step F H st F2 H2 st2 where
  ex := fun x o h => b.ex x o (a.ex x o h)
  pres := fun x o h k => let ⟨h1, k1⟩ := a.pres x o h k; b.pres x o h1 k1
  fnew := fun x o h => by
    rcases b.fnew x o h with q | q | q | ⟨ts, q⟩
    · cases e : F1 x with
      | none => exact absurd e q
      | some u => exact a.fnew x u e
    · cases e : H x with
      | none => exact .inr (.inl rfl)
      | some u =>
        cases e2 : st x with
        | none =>
          have := (a.pres x u e e2).1
          rw [q] at this; cases this
        | some m => exact .inr (.inr (.inl fun z => nomatch z))
    · cases e : H x with
      | none => exact .inr (.inl rfl)
      | some u =>
        cases e2 : st x with
        | none => exact absurd (a.pres x u e e2).2 q
        | some m => exact .inr (.inr (.inl fun z => nomatch z))
    · cases e : H x with
      | none => exact .inr (.inl rfl)
      | some u =>
        cases e2 : st x with
        | none =>
          have := (a.pres x u e e2).1
          rw [q] at this
          cases this
          exact .inr (.inr (.inr ⟨ts, rfl⟩))
        | some m => exact .inr (.inr (.inl fun z => nomatch z))
section
variable {K : PySem.W.Frag} {F F' H H' : Hp} {st st' : Sto} {σ : L2.St} {ε : Env}
theorem Rd.mono {a : Addr} {u : HO} (e : ∀ a o, F a = some o → F' a = some o) (h : Rd F a u) : Rd F' a u := by
  rcases h with h | ⟨o, h⟩
  · exact .inl (e _ _ h)
  · exact .inr ⟨o, e _ _ h⟩
theorem SqL.mono {a : Addr} {xs : List V} (e : ∀ a o, F a = some o → F' a = some o) (h : SqL K F a xs) : SqL K F' a xs := by
  rcases h with h | h
  · exact .inl (Rd.mono e h)
  · exact .inr h
theorem SqT.mono {a : Addr} {xs : List V} (e : ∀ a o, F a = some o → F' a = some o) (h : SqT K F a xs) : SqT K F' a xs := by
  rcases h with h | h
  · exact .inl (Rd.mono e h)
  · exact .inr h
mutual
theorem Rp.mono (e : ∀ a o, F a = some o → F' a = some o) : ∀ {v : V} {d : PyData}, Rp K F v d → Rp K F' v d
  | _, _, .non => .non
  | _, _, .bl b => .bl b
  | _, _, .int i => .int i
  | _, _, .str x => .str x
  | _, _, .lst h q => .lst (SqL.mono e h) (RpAll.mono e q)
  | _, _, .tup h q => .tup (e _ _ h) (RpAll.mono e q)
theorem RpAll.mono (e : ∀ a o, F a = some o → F' a = some o) : ∀ {vs : List V} {ds : List PyData}, RpAll K F vs ds → RpAll K F' vs ds
  | _, _, .nil => .nil
  | _, _, .cons h q => .cons (Rp.mono e h) (RpAll.mono e q)
end
mutual
theorem Rp.dp (e : ∀ a o, F a = some o → H a = some o) : ∀ {v : V} {d : PyData}, Rp K F v d → Dp K H v d
  | _, _, .non => .non
  | _, _, .bl b => .bl b
  | _, _, .int i => .int i
  | _, _, .str x => .str x
  | _, _, .lst h q => .lst (SqL.mono e h) (RpAll.dp e q)
  | _, _, .tup h q => .tup (SqT.of (e _ _ h)) (RpAll.dp e q)
theorem RpAll.dp (e : ∀ a o, F a = some o → H a = some o) : ∀ {vs : List V} {ds : List PyData}, RpAll K F vs ds → DpAll K H vs ds
  | _, _, .nil => .nil
  | _, _, .cons h q => .cons (Rp.dp e h) (RpAll.dp e q)
end
mutual
theorem RV.mono (e : ∀ a o, F a = some o → F' a = some o) : ∀ {v : V} {x : DV}, RV K F v x → RV K F' v x
  | _, _, .d h => .d (Rp.mono e h)
  | _, _, .r a => .r a
  | _, _, .t h q => .t (e _ _ h) (RVs.mono e q)
theorem RVs.mono (e : ∀ a o, F a = some o → F' a = some o) : ∀ {vs : List V} {xs : List DV}, RVs K F vs xs → RVs K F' vs xs
  | _, _, .nil => .nil
  | _, _, .cons h q => .cons (RV.mono e h) (RVs.mono e q)
end
theorem RVs.length : ∀ {vs : List V} {xs : List DV}, RVs K F vs xs → vs.length = xs.length
  | _, _, .nil => rfl
  | _, _, .cons _ q => congrArg (· + 1) (RVs.length q)
theorem RVs.append : ∀ {vs ws : List V} {xs ys : List DV}, RVs K F vs xs → RVs K F ws ys → RVs K F (vs ++ ws) (xs ++ ys)
  | _, _, _, _, .nil, h => h
  | _, _, _, _, .cons h q, k => .cons h (RVs.append q k)
theorem RVs.get : ∀ {vs : List V} {xs : List DV} {i : Nat} {v : V}, RVs K F vs xs → vs[i]? = some v → ∃ x, xs[i]? = some x ∧ RV K F v x
  | _, _, _, _, .nil, e => by simp at e
  | _, _, 0, _, .cons r _, e => by simp at e; subst e; exact ⟨_, rfl, r⟩
  | _, _, i + 1, v, .cons _ t, e => by
    obtain ⟨u, h1, h2⟩ := RVs.get (i := i) (v := v) t (by simpa using e)
    exact ⟨u, by simpa using h1, h2⟩
theorem RVs.get' : ∀ {vs : List V} {xs : List DV} {i : Nat} {x : DV}, RVs K F vs xs → xs[i]? = some x → ∃ v, vs[i]? = some v ∧ RV K F v x
  | _, _, _, _, .nil, e => by simp at e
  | _, _, 0, _, .cons r _, e => by simp at e; subst e; exact ⟨_, rfl, r⟩
  | _, _, i + 1, x, .cons _ t, e => by
    obtain ⟨u, h1, h2⟩ := RVs.get' (i := i) (x := x) t (by simpa using e)
    exact ⟨u, by simpa using h1, h2⟩
theorem RVs.take : ∀ {vs : List V} {xs : List DV} (n : Nat), RVs K F vs xs → RVs K F (vs.take n) (xs.take n)
  | _, _, 0, _ => .nil
  | _, _, _ + 1, .nil => .nil
  | _, _, n + 1, .cons r t => .cons r (RVs.take n t)
theorem RVs.drop : ∀ {vs : List V} {xs : List DV} (n : Nat), RVs K F vs xs → RVs K F (vs.drop n) (xs.drop n)
  | _, _, 0, r => r
  | _, _, _ + 1, .nil => .nil
  | _, _, n + 1, .cons _ t => RVs.drop n t
theorem RVs.set {v : V} {x : DV} (r : RV K F v x) : ∀ {vs : List V} {xs : List DV} (i : Nat), RVs K F vs xs → RVs K F (vs.set i v) (xs.set i x)
  | _, _, _, .nil => .nil
  | _, _, 0, .cons _ t => .cons r t
  | _, _, i + 1, .cons q t => .cons q (RVs.set r i t)
theorem RpAll.rvs : ∀ {vs : List V} {ds : List PyData}, RpAll K F vs ds → RVs K F vs (ds.map .d)
  | _, _, .nil => .nil
  | _, _, .cons h q => .cons (.d h) (RpAll.rvs q)
def datas : List DV → Option (List PyData)
  | [] => some []
  | .d x :: r => (datas r).map (x :: ·)
  | .r _ :: _ => none
  | .t _ :: _ => none
theorem datas_map : ∀ l : List PyData, datas (l.map .d) = some l
  | [] => rfl
  | x :: r => by simp [datas, datas_map r]
theorem datas_eq : ∀ {xs : List DV} {ds : List PyData}, datas xs = some ds → xs = ds.map .d
  | [], _, h => by cases h; rfl
  | .d x :: r, ds, h => by
    cases e : datas r with
    | none => simp [datas, e] at h
    | some l => simp [datas, e] at h; subst h; simp [← datas_eq e]
theorem RVs.all : ∀ {vs : List V} {ds : List PyData}, RVs K F vs (ds.map .d) → RpAll K F vs ds
  | _, [], h => by cases h; exact .nil
  | _, d :: ds, h => by
    cases h with
    | cons a b =>
      cases a with
      | d a => exact .cons a (RVs.all b)
theorem RE.mono (e : ∀ a o, F a = some o → F' a = some o) (h : RE K F σ ε) : RE K F' σ ε := ⟨h.1, fun i x q => let ⟨v, a, b⟩ := h.2 i x q; ⟨v, a, RV.mono e b⟩⟩
theorem RE.set {v : V} {x : DV} (h : RE K F σ ε) (r : RV K F v x) (i : Nat) : RE K F (σ.set i (some v)) (ε.set i (some x)) := by
  refine ⟨by rw [List.length_set, List.length_set]; exact h.1, fun j y q => ?_⟩
  by_cases e : i = j
  · subst e
    by_cases hl : i < ε.length
    · rw [List.getElem?_set_self hl] at q
      cases q
      exact ⟨v, by rw [List.getElem?_set_self (by rw [h.1]; exact hl)], r⟩
    · rw [List.getElem?_eq_none (by rw [List.length_set]; omega)] at q
      cases q
  · rw [List.getElem?_set_ne e] at q ⊢
    exact h.2 j y q
def wipeD (ε : Env) : List Nat → Env
  | [] => ε
  | v :: vs => (wipeD ε vs).set v none
theorem RE.setN (h : RE K F σ ε) (i : Nat) : RE K F (σ.set i none) (ε.set i none) := by
  refine ⟨by rw [List.length_set, List.length_set]; exact h.1, fun j y q => ?_⟩
  by_cases e : i = j
  · subst e
    by_cases hl : i < ε.length
    · rw [List.getElem?_set_self hl] at q
      cases q
    · rw [List.getElem?_eq_none (by rw [List.length_set]; omega)] at q
      cases q
  · rw [List.getElem?_set_ne e] at q ⊢
    exact h.2 j y q
theorem RE.wipe (h : RE K F σ ε) : ∀ vs : List Nat, RE K F (wipe σ vs) (wipeD ε vs)
  | [] => h
  | v :: vs => RE.setN (RE.wipe h vs) v
theorem MOk.mono (e : ∀ a o, F a = some o → F' a = some o) {a : Addr} (hh : H' a = H a) : ∀ {m : MO}, MOk K F H a m → MOk K F' H' a m
  | .lst _, ⟨vs, h, q⟩ => ⟨vs, hh.trans h, RVs.mono e q⟩
  | .dK _, ⟨vs, h, q⟩ => ⟨vs, hh.trans h, Paired.mapP q fun _ _ z => ⟨z.1, RV.mono e z.2⟩⟩
  | .dT _, ⟨vs, h, q⟩ => ⟨vs, hh.trans h, Paired.mapP q fun _ _ z => ⟨z.1, RV.mono e z.2⟩⟩
  | .ins _ _, ⟨dx, vs, h, q⟩ => ⟨dx, vs, hh.trans h, Paired.mapP q fun _ _ z => ⟨z.1, RV.mono e z.2⟩⟩
  | .lk _ _ _, ⟨h, q⟩ => ⟨hh.trans h, Paired.mapP q fun _ _ z => ⟨z.1, RV.mono e z.2⟩⟩
theorem MOk.some {a : Addr} {m : MO} (h : MOk K F H a m) : ∃ o, H a = some o := by
  cases m with
  | lst _ => obtain ⟨_, h, _⟩ := h; exact ⟨_, h⟩
  | dK _ => obtain ⟨_, h, _⟩ := h; exact ⟨_, h⟩
  | dT _ => obtain ⟨_, h, _⟩ := h; exact ⟨_, h⟩
  | ins _ _ => obtain ⟨_, _, h, _⟩ := h; exact ⟨_, h⟩
  | lk _ _ _ => obtain ⟨h, _⟩ := h; exact ⟨_, h⟩
theorem Rs.free (R : Rs K F H st) {p : Addr} (hp : H p = none) : F p = none ∧ st p = none := by
  constructor
  · cases e : F p with
    | none => rfl
    | some o => rw [(R.sub p o e).1] at hp; cases hp
  · cases e : st p with
    | none => rfl
    | some m => obtain ⟨o, q⟩ := (R.ok p m e).some; rw [hp] at q; cases q
/-- a new frozen object -/
theorem Rs.frz (R : Rs K F H st) {p : Addr} {o : HO} (hp : H p = none) : Rs K (upd F p o) (upd H p o) st ∧ Step F H st (upd F p o) (upd H p o) st := by
  obtain ⟨f0, s0⟩ := R.free hp
  have e : ∀ a u, F a = some u → upd F p o a = some u := fun a u h => by
    rw [upd_ne (fun q => by rw [q, f0] at h; cases h)]; exact h
  refine ⟨⟨fun a u h => ?_, fun a m h => ?_⟩, ⟨e, fun a u h k => ⟨?_, k⟩, fun a u h => ?_⟩⟩
  · by_cases q : a = p
    · subst q; rw [upd_same] at h ⊢; exact ⟨h, s0⟩
    · rw [upd_ne q] at h ⊢; exact R.sub a u h
  · refine MOk.mono e ?_ (R.ok a m h)
    exact upd_ne fun q => by rw [q, s0] at h; cases h
  · rw [upd_ne (fun q => by rw [q, hp] at h; cases h)]; exact h
  · by_cases q : a = p
    · subst q; exact .inr (.inl hp)
    · rw [upd_ne q] at h; exact .inl (by rw [h]; exact fun z => nomatch z)
/-- a new hidden object, neither frozen nor in the store -/
theorem Rs.hide (R : Rs K F H st) {p : Addr} {o : HO} (hp : H p = none) : Rs K F (upd H p o) st ∧ Step F H st F (upd H p o) st := by
  obtain ⟨f0, s0⟩ := R.free hp
  refine ⟨⟨fun a u h => ?_, fun a m h => ?_⟩, ⟨fun _ _ h => h, fun a u h k => ⟨?_, k⟩, fun a u h => .inl (by rw [h]; exact fun z => nomatch z)⟩⟩
  · rw [upd_ne (fun q => by rw [q, f0] at h; cases h)]; exact R.sub a u h
  · refine MOk.mono (fun _ _ z => z) ?_ (R.ok a m h)
    exact upd_ne fun q => by rw [q, s0] at h; cases h
  · rw [upd_ne (fun q => by rw [q, hp] at h; cases h)]; exact h
/-- a new object of the store -/
theorem Rs.new (R : Rs K F H st) {p : Addr} {o : HO} {m : MO} (hp : H p = none) (hm : MOk K F (upd H p o) p m) : Rs K F (upd H p o) (up st p m) ∧ Step F H st F (upd H p o) (up st p m) := by
  obtain ⟨f0, s0⟩ := R.free hp
  refine ⟨⟨fun a u h => ?_, fun a m' h => ?_⟩, ⟨fun _ _ h => h, fun a u h k => ?_, fun a u h => .inl (by rw [h]; exact fun z => nomatch z)⟩⟩
  · have q : a ≠ p := fun q => by rw [q, f0] at h; cases h
    rw [upd_ne q, up_ne q]; exact R.sub a u h
  · by_cases q : a = p
    · subst q; rw [up_same] at h; cases h; exact hm
    · rw [up_ne q] at h; exact MOk.mono (fun _ _ z => z) (upd_ne q) (R.ok a m' h)
  · have q : a ≠ p := fun q => by rw [q, hp] at h; cases h
    rw [upd_ne q, up_ne q]; exact ⟨h, k⟩
/-- an object of the store written -/
theorem Rs.put (R : Rs K F H st) {p : Addr} {o : HO} {m m0 : MO} (h0 : st p = some m0) (hm : MOk K F (upd H p o) p m) : Rs K F (upd H p o) (up st p m) ∧ Step F H st F (upd H p o) (up st p m) := by
  have f0 : ∀ u, F p ≠ some u := fun u h => by rw [(R.sub p u h).2] at h0; cases h0
  refine ⟨⟨fun a u h => ?_, fun a m' h => ?_⟩, ⟨fun _ _ h => h, fun a u h k => ?_, fun a u h => .inl (by rw [h]; exact fun z => nomatch z)⟩⟩
  · have q : a ≠ p := fun q => f0 u (q ▸ h)
    rw [upd_ne q, up_ne q]; exact R.sub a u h
  · by_cases q : a = p
    · subst q; rw [up_same] at h; cases h; exact hm
    · rw [up_ne q] at h; exact MOk.mono (fun _ _ z => z) (upd_ne q) (R.ok a m' h)
  · have q : a ≠ p := fun q => by rw [q, h0] at k; cases k
    rw [upd_ne q, up_ne q]; exact ⟨h, k⟩
/-- a hidden object written -/
theorem Rs.hput (R : Rs K F H st) {p : Addr} {o : HO} (f0 : F p = none) (s0 : st p = none) : Rs K F (upd H p o) st := by
  refine ⟨fun a u h => ?_, fun a m' h => ?_⟩
  · have q : a ≠ p := fun q => by rw [q, f0] at h; cases h
    rw [upd_ne q]; exact R.sub a u h
  · have q : a ≠ p := fun q => by rw [q, s0] at h; cases h
    exact MOk.mono (fun _ _ z => z) (upd_ne q) (R.ok a m' h)
def Le (st st' : Sto) : Prop := ∀ a m, st a = some m → st' a = some m
theorem Le.refl (st : Sto) : Le st st := fun _ _ h => h
theorem Le.trans {a b c : Sto} (h : Le a b) (k : Le b c) : Le a c := fun x m q => k x m (h x m q)
theorem Le.up {a b : Sto} {p : Addr} {m : MO} (h : Le a b) (hp : a p = none) : Le a (up b p m) := fun x n q => by
  rw [up_ne (fun e => by rw [e, hp] at q; cases q)]; exact h x n q
theorem Rs.le (R : Rs K F H st') (h : Le st st') : Rs K F H st := ⟨fun a o q => ⟨(R.sub a o q).1, by
  cases e : st a with
  | none => rfl
  | some m =>
    have z := (R.sub a o q).2
    rw [h a m e] at z
    cases z⟩, fun a m q => R.ok a m (h a m q)⟩
end
end DL
end
section
set_option Elab.async false
set_option linter.all false
set_option maxRecDepth 100000
set_option maxHeartbeats 2000000
namespace DL
open PySem L2 PyProof.Rows
abbrev TD := Env → Sto → (DV → Sto → Prop) → Prop
abbrev TDt := Env → Sto → (Bool → Sto → Prop) → Prop
abbrev TDa := Env → Sto → (List DV → Sto → Prop) → Prop
abbrev R2D := DV → DV → Sto → (DV → Sto → Prop) → Prop
abbrev R1D := DV → Sto → (DV → Sto → Prop) → Prop
abbrev RLD := List DV → Sto → (DV → Sto → Prop) → Prop
/-- what is wanted of what comes out -/
def Kg {α β : Type} (rel : Hp → α → β → Prop) (K : PySem.W.Frag) (F H : Hp) (st : Sto) (Qd : β → Sto → Prop) (Q : α → Hp → Prop) : Prop :=
  ∀ F' a H' b st', Step F H st F' H' st' → Rs K F' H' st' → rel F' a b → Qd b st' → Q a H'
def Sg {α β : Type} (rel : Hp → α → β → Prop) (K : PySem.W.Frag) (te : L2.St → Hp → (α → Hp → Prop) → Prop) (t : Env → Sto → (β → Sto → Prop) → Prop) : Prop :=
  ∀ F σ H ε st Qd Q, Rs K F H st → RE K F σ ε → t ε st Qd → Kg rel K F H st Qd Q → te σ H Q
theorem Kg.at {α β : Type} {rel : Hp → α → β → Prop} {K : PySem.W.Frag} {F H : Hp} {st : Sto} {Qd : β → Sto → Prop} {Q : α → Hp → Prop} (k : Kg rel K F H st Qd Q) {a : α} {b : β} (R : Rs K F H st) (r : rel F a b) (q : Qd b st) : Q a H :=
  k F a H b st (Step.refl _ _ _) R r q
abbrev relT : Hp → Bool → Bool → Prop := fun _ a b => a = b
structure DE (X : Cx) (e : Expr) (t : TD) : Prop where
  ex : ∃ te, PE X e te ∧ Sg (RV X.K) X.K te t
structure DT (X : Cx) (e : Expr) (t : TDt) : Prop where
  ex : ∃ te, PT X e te ∧ Sg relT X.K te t
structure DW (X : Cx) (e : Expr) (t : TDt) : Prop where
  ex : ∃ te, PW X e te ∧ Sg relT X.K te t
structure DA (X : Cx) (es : List Expr) (t : TDa) : Prop where
  ex : ∃ te, PA X es te ∧ Sg (RVs X.K) X.K te t
/-- two values in, one out -/
def S2 (K : PySem.W.Frag) (r' : R2) (r : R2D) : Prop := ∀ F H st v w x y Qd Q, Rs K F H st → RV K F v x → RV K F w y → r x y st Qd → Kg (RV K) K F H st Qd Q → r' v w H Q
def S1 (K : PySem.W.Frag) (r' : V → Hp → VK → Prop) (r : R1D) : Prop := ∀ F H st v x Qd Q, Rs K F H st → RV K F v x → r x st Qd → Kg (RV K) K F H st Qd Q → r' v H Q
def SL (K : PySem.W.Frag) (r' : List V → Hp → VK → Prop) (r : RLD) : Prop := ∀ F H st vs xs Qd Q, Rs K F H st → RVs K F vs xs → r xs st Qd → Kg (RV K) K F H st Qd Q → r' vs H Q
/-- the context of a piece of a def's body -/
structure Cok (P : Program) (w : World) (K : PySem.W.Frag) (mg : Str → Option Value) (base : Heap) (X : Cx) (N : List Str) (sc fs : Scope) (k : Nat) : Prop where
  hP : X.prog = P
  hw : X.w = w
  hK : X.K = K
  hmg : X.mg = mg
  hb : X.base = base
  hN : X.N = N
  nd : N.Nodup
  kind : sc.kind = .function
  hs : X.env.scope = sc
  calm : X.calm = true
  fn : ∀ x, fs.names.lookup x = some .cell → X.fn x = true
  room : Room k X.A
  pass : PassesOwn (model X.prog X.w) X.A X.env X.xe
section
variable {P : Program} {w : World} {K : PySem.W.Frag} {mg : Str → Option Value} {base : Heap} {X : Cx} {N : List Str} {sc fs : Scope} {k : Nat}
def visB (N : List Str) (sc : Scope) (i : Nat) (x : Str) : Bool :=
  decide (N[i]? = some x) && (match sc.names.lookup x with | some .local => true | some .cell => true | some .free => true | _ => false) && !(x == ("__debug__" : Str)) && !(x == ("__classdict__" : Str))
def locB (N : List Str) (sc fs : Scope) (i : Nat) (x : Str) : Bool :=
  decide (N[i]? = some x) && (match sc.names.lookup x with | some .local => true | some .cell => (match fs.names.lookup x with | some .cell => true | _ => false) | _ => false)
def glB (sc : Scope) (x : Str) : Bool := (match sc.names.lookup x with | some .globalImplicit => true | _ => false) && !(x == ("__debug__" : Str)) && !(x == ("__name__" : Str))
def qv (i : Nat) : TD := fun ε st Q => match ε[i]? with | some (some x) => Q x st | _ => False
theorem de_var {i : Nat} {x : Str} {pos : Pos} (c : Cok P w K mg base X N sc fs k) (h : visB N sc i x = true) : DE X (.Name x pos) (qv i) := by
  unfold visB at h
  simp only [Bool.and_eq_true, decide_eq_true_eq, Bool.not_eq_true'] at h
  obtain ⟨⟨⟨h1, h2⟩, h3⟩, h4⟩ := h
  refine ⟨⟨tVar i, pe_var (by rw [c.hN]; exact h1) ?_ h3 h4, fun F σ H ε st Qd Q R E q kk => ?_⟩⟩
  · unfold Vis
    rw [c.hs]
    split at h2 <;> first | exact .inl (by assumption) | exact .inr (.inl (by assumption)) | exact .inr (.inr (by assumption)) | cases h2
  · unfold qv at q
    split at q
    · rename_i x e
      obtain ⟨v, e2, r⟩ := E.2 i x e
      exact ⟨v, e2, kk.at R r q⟩
    · exact q.elim
def qc (x : DV) : TD := fun _ st Q => Q x st
theorem de_int {i j pos} : DE X (.Constant (.int i) j pos) (qc (.d (.int i))) := ⟨⟨_, pe_int, fun F σ H ε st Qd Q R E q kk => kk.at R (.d (.int i)) q⟩⟩
theorem de_bl {b j pos} : DE X (.Constant (.bool b) j pos) (qc (.d (.bool b))) := ⟨⟨_, pe_bl, fun F σ H ε st Qd Q R E q kk => kk.at R (.d (.bl b)) q⟩⟩
theorem de_non {j pos} : DE X (.Constant .none j pos) (qc (.d .none)) := ⟨⟨_, pe_non, fun F σ H ε st Qd Q R E q kk => kk.at R (.d .non) q⟩⟩
theorem de_str {x j pos} : DE X (.Constant (.str x) j pos) (qc (.d (.str x))) := ⟨⟨_, pe_str, fun F σ H ε st Qd Q R E q kk => kk.at R (.d (.str x)) q⟩⟩
theorem Sg.bin {α β γ δ ξ ζ : Type} {rel1 : Hp → α → β → Prop} {rel2 : Hp → γ → δ → Prop} {rel3 : Hp → ξ → ζ → Prop} {ta : L2.St → Hp → (α → Hp → Prop) → Prop} {tb : L2.St → Hp → (γ → Hp → Prop) → Prop}
    {da : Env → Sto → (β → Sto → Prop) → Prop} {db : Env → Sto → (δ → Sto → Prop) → Prop} {r' : α → γ → Hp → (ξ → Hp → Prop) → Prop} {r : β → δ → Sto → (ζ → Sto → Prop) → Prop}
    (sa : Sg rel1 K ta da) (sb : Sg rel2 K tb db) (mono : ∀ F F' a b, (∀ x o, F x = some o → F' x = some o) → rel1 F a b → rel1 F' a b)
    (hs : ∀ F H st v w x y Qd Q, Rs K F H st → rel1 F v x → rel2 F w y → r x y st Qd → Kg rel3 K F H st Qd Q → r' v w H Q) :
    Sg rel3 K (fun σ H Q => ta σ H fun x H1 => tb σ H1 fun y H2 => r' x y H2 Q) (fun ε st Q => da ε st fun x s1 => db ε s1 fun y s2 => r x y s2 Q) := by
  intro F σ H ε st Qd Q R E h kk
  refine sa F σ H ε st _ _ R E h fun F1 v H1 x s1 t1 R1 rv q => ?_
  refine sb F1 σ H1 ε s1 _ _ R1 (E.mono t1.ex) q fun F2 u H2 y s2 t2 R2 ru q2 => ?_
  exact hs F2 H2 s2 v u x y _ _ R2 (mono _ _ _ _ t2.ex rv) ru q2 fun F3 z H3 z' s3 t3 R3 rz q3 => kk F3 z H3 z' s3 ((t1.trans t2).trans t3) R3 rz q3
def qOp (r : R2D) (ta tb : TD) : TD := fun ε st Q => ta ε st fun x s1 => tb ε s1 fun y s2 => r x y s2 Q
theorem de_op {op : Operator} {a b : Expr} {pos : Pos} {ta tb : TD} {r' : R2} {r : R2D} (ho : OpR X (binaryOp op) r') (hs : S2 X.K r' r) (ha : DE X a ta) (hb : DE X b tb) : DE X (.BinOp a op b pos) (qOp r ta tb) := by
  obtain ⟨te, pa, sa⟩ := ha
  obtain ⟨tf, pb, sb⟩ := hb
  exact ⟨⟨_, pe_op ho pa pb, Sg.bin sa sb (fun _ _ _ _ e h => RV.mono e h) hs⟩⟩
theorem de_cmp {op : CmpOp} {a b : Expr} {pos : Pos} {ta tb : TD} {r' : R2} {r : R2D} (ho : OpR X (compareOp op) r') (hs : S2 X.K r' r) (hm : behindInMarks op b = false) (ha : DE X a ta) (hb : DE X b tb) : DE X (.Compare a [op] [b] pos) (qOp r ta tb) := by
  obtain ⟨te, pa, sa⟩ := ha
  obtain ⟨tf, pb, sb⟩ := hb
  exact ⟨⟨_, pe_cmpR ho pa pb hm, Sg.bin sa sb (fun _ _ _ _ e h => RV.mono e h) hs⟩⟩
def qUn (r : R1D) (ta : TD) : TD := fun ε st Q => ta ε st fun x s1 => r x s1 Q
theorem Sg.go {α β γ δ : Type} {rel1 : Hp → α → β → Prop} {rel3 : Hp → γ → δ → Prop} {ta : L2.St → Hp → (α → Hp → Prop) → Prop} {da : Env → Sto → (β → Sto → Prop) → Prop} {F H : Hp} {σ : L2.St} {ε : Env} {st : Sto} {G : β → Sto → Prop} {W : α → Hp → Prop}
    {Qd : δ → Sto → Prop} {Q : γ → Hp → Prop} (sa : Sg rel1 K ta da) (R : Rs K F H st) (E : RE K F σ ε) (h : da ε st G) (kk : Kg rel3 K F H st Qd Q)
    (hs : ∀ F1 H1 s1 v x, Rs K F1 H1 s1 → RE K F1 σ ε → rel1 F1 v x → G x s1 → Kg rel3 K F1 H1 s1 Qd Q → W v H1) : ta σ H W := by
  refine sa F σ H ε st _ _ R E h fun F1 v H1 x s1 t1 R1 rv q => ?_
  exact hs F1 H1 s1 v x R1 (E.mono t1.ex) rv q fun F3 z H3 z' s3 t3 R3 rz q3 => kk F3 z H3 z' s3 (t1.trans t3) R3 rz q3
theorem de_un {op : UnaryOp} {a : Expr} {pos : Pos} {ta : TD} {r' : V → Hp → VK → Prop} {r : R1D} (ho : UnR X (unaryOp op) r') (hs : S1 X.K r' r) (ha : DE X a ta) : DE X (.UnaryOp op a pos) (qUn r ta) := by
  obtain ⟨te, pa, sa⟩ := ha
  exact ⟨⟨_, pe_un ho pa, fun F σ H ε st Qd Q R E h kk => sa.go R E h kk fun F1 H1 s1 v x R1 E1 rv q kk => hs F1 H1 s1 v x _ _ R1 rv q kk⟩⟩
def onB (Q : Bool → Sto → Prop) : DV → Sto → Prop
  | .d (.bool b), s => Q b s
  | _, _ => False
theorem onB_out {Q : Bool → Sto → Prop} {x : DV} {s : Sto} (h : onB Q x s) : ∃ b, x = .d (.bool b) ∧ Q b s := by
  unfold onB at h
  split at h
  · exact ⟨_, rfl, h⟩
  · exact h.elim
def qTest (ta : TD) : TDt := fun ε st Q => ta ε st (onB Q)
theorem dt_val {e : Expr} {ta : TD} (ha : DE X e ta) (he : ∀ whole, isTrue e X.env whole = (do let v ← whole; standAt e.pos; holding [v] (truthy v)) := by intro _; rfl) : DT X e (qTest ta) := by
  obtain ⟨te, pa, sa⟩ := ha
  refine ⟨⟨_, pt_val pa he, fun F σ H ε st Qd Q R E h kk => sa.go R E h kk fun F1 H1 s1 v x R1 E1 rv q kk => ?_⟩⟩
  obtain ⟨b, e, q⟩ := onB_out q
  subst e
  cases rv with
  | d rv => cases rv; exact ⟨b, rfl, kk.at R1 rfl q⟩
def qNotT (t : TDt) : TDt := fun ε st Q => t ε st fun b s1 => Q (!b) s1
theorem dt_not {a : Expr} {pos : Pos} {t : TDt} (ha : DT X a t) : DT X (.UnaryOp .Not a pos) (qNotT t) := by
  obtain ⟨te, pa, sa⟩ := ha
  refine ⟨⟨_, pt_not pa, fun F σ H ε st Qd Q R E h kk => sa.go R E h kk fun F1 H1 s1 v x R1 E1 rv q kk => ?_⟩⟩
  cases rv
  exact kk.at R1 rfl q
def qAndT (t u : TDt) : TDt := fun ε st Q => t ε st fun b s1 => if b = true then u ε s1 Q else Q false s1
def qOrT (t u : TDt) : TDt := fun ε st Q => t ε st fun b s1 => if b = true then Q true s1 else u ε s1 Q
theorem DW.pt {e : Expr} {t : TDt} (h : DW X e t) : DT X e t := let ⟨te, p, s⟩ := h.ex; ⟨⟨te, p.pt, s⟩⟩
theorem dw_and1 {a : Expr} {pos : Pos} {t : TDt} (ha : DT X a t) : DW X (.BoolOp .And [a] pos) t := let ⟨te, p, s⟩ := ha.ex; ⟨⟨te, pw_and1 p, s⟩⟩
theorem dw_or1 {a : Expr} {pos : Pos} {t : TDt} (ha : DT X a t) : DW X (.BoolOp .Or [a] pos) t := let ⟨te, p, s⟩ := ha.ex; ⟨⟨te, pw_or1 p, s⟩⟩
theorem dw_and {a b : Expr} {rest : List Expr} {pos : Pos} {t u : TDt} (ha : DT X a t) (hb : DW X (.BoolOp .And (b :: rest) pos) u) : DW X (.BoolOp .And (a :: b :: rest) pos) (qAndT t u) := by
  obtain ⟨te, pa, sa⟩ := ha
  obtain ⟨tf, pb, sb⟩ := hb
  refine ⟨⟨_, pw_and pa pb, fun F σ H ε st Qd Q R E h kk => ?_⟩⟩
  refine sa F σ H ε st _ _ R E h fun F1 v H1 x s1 t1 R1 rv q => ?_
  cases rv
  cases v with
  | true => exact sb F1 σ H1 ε s1 _ _ R1 (E.mono t1.ex) q fun F3 z H3 z' s3 t3 R3 rz q3 => kk F3 z H3 z' s3 (t1.trans t3) R3 rz q3
  | false => exact kk F1 _ H1 _ s1 t1 R1 rfl q
theorem dw_or {a b : Expr} {rest : List Expr} {pos : Pos} {t u : TDt} (ha : DT X a t) (hb : DW X (.BoolOp .Or (b :: rest) pos) u) : DW X (.BoolOp .Or (a :: b :: rest) pos) (qOrT t u) := by
  obtain ⟨te, pa, sa⟩ := ha
  obtain ⟨tf, pb, sb⟩ := hb
  refine ⟨⟨_, pw_or pa pb, fun F σ H ε st Qd Q R E h kk => ?_⟩⟩
  refine sa F σ H ε st _ _ R E h fun F1 v H1 x s1 t1 R1 rv q => ?_
  cases rv
  cases v with
  | false => exact sb F1 σ H1 ε s1 _ _ R1 (E.mono t1.ex) q fun F3 z H3 z' s3 t3 R3 rz q3 => kk F3 z H3 z' s3 (t1.trans t3) R3 rz q3
  | true => exact kk F1 _ H1 _ s1 t1 R1 rfl q
/-- and, or, not as values -/
def qAndV (ta tb : TD) : TD := fun ε st Q => ta ε st (onB fun b s1 => if b = true then tb ε s1 Q else Q (.d (.bool false)) s1)
def qOrV (ta tb : TD) : TD := fun ε st Q => ta ε st (onB fun b s1 => if b = true then Q (.d (.bool true)) s1 else tb ε s1 Q)
def qNotV (ta : TD) : TD := fun ε st Q => ta ε st (onB fun b s1 => Q (.d (.bool (!b))) s1)
def qIf (t : TDt) (ta tb : TD) : TD := fun ε st Q => t ε st fun b s1 => if b = true then ta ε s1 Q else tb ε s1 Q
theorem de_if {c a b : Expr} {pos : Pos} {t : TDt} {ta tb : TD} (hc : DT X c t) (ha : DE X a ta) (hb : DE X b tb) : DE X (.IfExp c a b pos) (qIf t ta tb) := by
  obtain ⟨tc, pc, sc'⟩ := hc
  obtain ⟨te, pa, sa⟩ := ha
  obtain ⟨tf, pb, sb⟩ := hb
  refine ⟨⟨_, pe_ifExp pc pa pb, fun F σ H ε st Qd Q R E h kk => ?_⟩⟩
  refine sc' F σ H ε st _ _ R E h fun F1 v H1 x s1 t1 R1 rv q => ?_
  cases rv
  cases v with
  | true => exact sa F1 σ H1 ε s1 _ _ R1 (E.mono t1.ex) q fun F3 z H3 z' s3 t3 R3 rz q3 => kk F3 z H3 z' s3 (t1.trans t3) R3 rz q3
  | false => exact sb F1 σ H1 ε s1 _ _ R1 (E.mono t1.ex) q fun F3 z H3 z' s3 t3 R3 rz q3 => kk F3 z H3 z' s3 (t1.trans t3) R3 rz q3
/-- a < b < c -/
def qChain (r r2 : R2D) (ta tb tc : TD) : TD := fun ε st Q => ta ε st fun x s1 => tb ε s1 fun y s2 => r x y s2 (onB fun b s3 => if b = true then tc ε s3 fun u s4 => r2 y u s4 Q else Q (.d (.bool false)) s3)
def qNil : TDa := fun _ st Q => Q [] st
def qCons (ta : TD) (tr : TDa) : TDa := fun ε st Q => ta ε st fun x s1 => tr ε s1 fun xs s2 => Q (x :: xs) s2
theorem da_nil : DA X [] qNil := ⟨⟨_, pa_nil, fun F σ H ε st Qd Q R E q kk => kk.at R .nil q⟩⟩
theorem da_cons {e : Expr} {es : List Expr} {t : TD} {u : TDa} (h : DE X e t) (hr : DA X es u) (hs : starEach (e :: es) X.env = (false, eval e X.env) :: starEach es X.env := by rfl) : DA X (e :: es) (qCons t u) := by
  obtain ⟨te, pa, sa⟩ := h
  obtain ⟨tf, pb, sb⟩ := hr
  exact ⟨⟨_, pa_cons pa pb hs, Sg.bin (r' := fun x xs H Q => Q (x :: xs) H) (r := fun x xs st Q => Q (x :: xs) st) sa sb (fun _ _ _ _ e h => RV.mono e h) fun F H st v w x y Qd Q R rv rw q kk => kk.at R (.cons rv rw) q⟩⟩
theorem Rs.ex (F H : Hp) (st : Sto) (R : Rs K F H st) : ∀ a o, F a = some o → H a = some o := fun a o h => (R.sub a o h).1
def mkT (xs : List DV) : DV := match datas xs with | some ds => .d (.tuple ds) | none => .t xs
theorem mkT_rv {F : Hp} {vs : List V} {xs : List DV} {p : Addr} (h : F p = some (.tup vs)) (r : RVs K F vs xs) : RV K F (.ref p) (mkT xs) := by
  unfold mkT
  cases e : datas xs with
  | some ds =>
    have e2 := datas_eq e
    subst e2
    exact .d (.tup h r.all)
  | none => exact .t h r
/-- a new tuple -/
theorem new_tup {F H : Hp} {st : Sto} {vs : List V} {xs : List DV} {p : Addr} {Qd : DV → Sto → Prop} {Q : VK} (R : Rs K F H st) (r : RVs K F vs xs) (hp : H p = none) (q : Qd (mkT xs) st) (kk : Kg (RV K) K F H st Qd Q) : Q (.ref p) (upd H p (.tup vs)) := by
  obtain ⟨R', t⟩ := R.frz (o := .tup vs) hp
  exact kk _ _ _ _ _ t R' (mkT_rv upd_same (r.mono t.ex)) q
/-- a new list: tracked (m) or frozen -/
def newL (m : Bool) (xs : List DV) (st : Sto) (Q : DV → Sto → Prop) : Prop := match m with
  | true => ∀ p, st p = none → Q (.r p) (up st p (.lst xs))
  | false => match datas xs with | some ds => Q (.d (.list ds)) st | none => False
theorem new_lst {F H : Hp} {st : Sto} {vs : List V} {xs : List DV} {m : Bool} {p : Addr} {Qd : DV → Sto → Prop} {Q : VK} (R : Rs K F H st) (r : RVs K F vs xs) (hp : H p = none) (q : newL m xs st Qd) (kk : Kg (RV K) K F H st Qd Q) : Q (.ref p) (upd H p (.lst vs)) := by
  cases m with
  | true =>
    obtain ⟨R', t⟩ := R.new (o := .lst vs) (m := .lst xs) hp ⟨vs, upd_same, r⟩
    exact kk _ _ _ _ _ t R' (.r p) (q p (R.free hp).2)
  | false =>
    unfold newL at q
    simp only at q
    split at q
    rotate_left
    · exact q.elim
    rename_i ds ed
    have ed2 := datas_eq ed
    subst ed2
    obtain ⟨R', t⟩ := R.frz (o := .lst vs) hp
    exact kk _ _ _ _ _ t R' (.d (.lst (SqL.of upd_same) (r.mono t.ex).all)) q
def qTup (t : TDa) : TD := fun ε st Q => t ε st fun xs s1 => xs.length ≤ sizeLine ∧ Q (mkT xs) s1
def qLst (m : Bool) (t : TDa) : TD := fun ε st Q => t ε st fun xs s1 => xs.length ≤ sizeLine ∧ newL m xs s1 Q
theorem de_tup {es : List Expr} {j : Nat} {pos : Pos} {t : TDa} (h : DA X es t) : DE X (.Tuple es j pos) (qTup t) := by
  obtain ⟨te, pa, sa⟩ := h
  refine ⟨⟨_, pe_tup pa, fun F σ H ε st Qd Q R E h kk => sa.go R E h kk fun F1 H1 s1 v x R1 E1 rv q kk => ?_⟩⟩
  exact ⟨by rw [rv.length]; exact q.1, fun p hp => new_tup R1 rv hp q.2 kk⟩
theorem de_lst {es : List Expr} {pos : Pos} {t : TDa} (m : Bool) (h : DA X es t) : DE X (.List es pos) (qLst m t) := by
  obtain ⟨te, pa, sa⟩ := h
  refine ⟨⟨_, pe_lst pa, fun F σ H ε st Qd Q R E h kk => sa.go R E h kk fun F1 H1 s1 v x R1 E1 rv q kk => ?_⟩⟩
  exact ⟨by rw [rv.length]; exact q.1, fun p hp => new_lst R1 rv hp q.2 kk⟩
end
end DL
end
section
set_option Elab.async false
set_option linter.all false
set_option maxRecDepth 100000
set_option maxHeartbeats 4000000
namespace DL
open PySem L2 PyProof.Rows HT
section
variable {prog : Program} {w : World} {A : Around} {E : Value → Shared → Prop} {s : Shared}
theorem tuple_mul_same (l : Addr) (items : Array Value) (n : Nat) (dd : Option Addr) (sl : Array (Option Value)) (x : Int) (u : Tok) (c0 : (decide (x < -(2 ^ 63)) || decide (x ≥ 2 ^ 63)) = false) (c1 : (items.isEmpty || x == 1) = true) :
    Meets (Builtin.«tuple.__mul__» ⟨[.ref l, .int x u], []⟩) (fun _ R s => s.heap.get? l = some { cls := .type "tuple", dict := dd, data := .seq items n, slots := sl } ∧ R (.ok (.ret (Value.ref l))) s) :=
  .of_wp fun prog w A R s h => by
    obtain ⟨hp, g, d, tk, os⟩ := s
    obtain ⟨hl, h⟩ := h
    have f1 := AutoSeq1.idx_int
    wp_walk using wpAny_loadPart' hl
    repeat (first
      | (refine wpAny_ite_false (decide_eq_false (by rw [c0]; exact Bool.false_ne_true)) ?_; wp_walk using wpAny_loadPart' hl)
      | (refine wpAny_ite_true (decide_eq_true c1) ?_; wp_walk using wpAny_loadPart' hl))
    all_goals exact ⟨_, rfl, h⟩
theorem tuple_mul_none (l : Addr) (items : Array Value) (n : Nat) (dd : Option Addr) (sl : Array (Option Value)) (x : Int) (u : Tok) (c0 : (decide (x < -(2 ^ 63)) || decide (x ≥ 2 ^ 63)) = false) (c1 : (items.isEmpty || x == 1) = false) (c2 : (decide (x ≤ 0) || items.isEmpty) = true) :
    Meets (Builtin.«tuple.__mul__» ⟨[.ref l, .int x u], []⟩) (fun _ R s => s.heap.get? l = some { cls := .type "tuple", dict := dd, data := .seq items n, slots := sl } ∧ R (.ok (.ret (Value.ref s.heap.objs.size))) { s with heap := s.heap.push { cls := Value.type "tuple", data := Data.seq #[] }, toks := s.toks }) :=
  .of_wp fun prog w A R s h => by
    obtain ⟨hp, g, d, tk, os⟩ := s
    obtain ⟨hl, h⟩ := h
    have f1 := AutoSeq1.idx_int
    wp_walk using wpAny_loadPart' hl
    repeat (first
      | (refine wpAny_ite_false (decide_eq_false (by rw [c0]; exact Bool.false_ne_true)) ?_; wp_walk using wpAny_loadPart' hl)
      | (refine wpAny_ite_false (decide_eq_false (by rw [c1]; exact Bool.false_ne_true)) ?_; wp_walk using wpAny_loadPart' hl)
      | (refine wpAny_ite_true (decide_eq_true c2) ?_; wp_walk using wpAny_loadPart' hl))
    all_goals exact ⟨_, rfl, h⟩
end
section
variable {X : Cx}
theorem OpR.or2 {f : Value → Value → Sem Value} {r r' : R2} (h : OpR X f r) (h' : OpR X f r') : OpR X f (fun x y H Q => r x y H Q ∨ r' x y H Q) := by
  intro pins s σ H x y v u Q I rx ry q
  rcases q with q | q
  · exact h pins s σ H x y v u Q I rx ry q
  · exact h' pins s σ H x y v u Q I rx ry q
def rRepA (K : PySem.W.Frag) : R2 := fun x y H Q => ∃ l k xs, x = .ref l ∧ y = .int k ∧ SqT K H l xs ∧ xs ≠ [] ∧ k ≤ 1000 ∧ -1000 ≤ k ∧ xs.length ≤ 1000 ∧ (k = 1 → Q (.ref l) H) ∧ (k ≠ 1 → ∀ p, H p = none → Q (.ref p) (upd H p (.tup (List.replicate k.toNat xs).flatten)))
theorem op_repA : OpR X (binaryOp .Mult) (rRepA X.K) := by
  intro pins s σ H x y v u Q I rx ry h
  obtain ⟨l, k, xs, rfl, rfl, hT, hne, h2, h1, hz, q1, q⟩ := h
  by_cases h3 : 2 ≤ k
  · exact op_repT pins s σ H _ _ v u Q I rx ry ⟨l, k, xs, rfl, rfl, hT, hne, h3, h2, hz, q (by omega)⟩
  cases rx
  obtain ⟨t, rfl⟩ := ry
  obtain ⟨its, r, ⟨⟨cls, dd, data, sl⟩, ho, hc, n, hd⟩, hs⟩ := I.tuple hT
  simp only at hc hd
  subst hc hd
  have hn : its ≠ [] := fun e => hne (by
    have hle : its.length = xs.length := r.length.symm
    rw [e] at hle
    exact List.eq_nil_of_length_eq_zero hle.symm)
  have hi : its.toArray.isEmpty = false := by
    cases its with
    | nil => exact absurd rfl hn
    | cons a b => rfl
  have c0 : (decide (k < -(2 ^ 63)) || decide (k ≥ 2 ^ 63)) = false := by
    rw [decide_eq_false (by omega), decide_eq_false (by omega)] <;> rfl
  by_cases h4 : k = 1
  · subst h4
    exact wpAny_binaryOp_repeat_ref (T := "tuple") (U := "int") (by decide) ⟨_, ho, rfl⟩ (fun s' => typeIs_int s' 1 t) noFill_tuple_mul F.fills_int_mul F.slot_int_rmul repeat_tuple F.slot_int_index.lookup
      (call_meets F.slot_int_rmul (typeIs_int s 1 t) F.entry_int_rmul (F.args_int_rmul_2 _ _) (int_rmul_tuple 1 t l its.toArray n dd sl)
        ⟨ho, rfl, ⟨_, ho, rfl⟩, call_meets F.slot_tuple_mul ⟨_, ho, rfl⟩ F.entry_tuple_mul (F.args_tuple_mul_2 _ _) (tuple_mul_same l its.toArray n dd sl 1 t c0 (by rw [hi]; rfl)) ⟨ho, ⟨.ref l, H, I, rfl, q1 rfl⟩⟩⟩)
  · have c1 : (its.toArray.isEmpty || k == 1) = false := by
      rw [hi, Bool.false_or]
      exact beq_eq_false_iff_ne.mpr h4
    have c2 : (decide (k ≤ 0) || its.toArray.isEmpty) = true := by
      rw [decide_eq_true (by omega)] <;> rfl
    refine wpAny_binaryOp_repeat_ref (T := "tuple") (U := "int") (by decide) ⟨_, ho, rfl⟩ (fun s' => typeIs_int s' k t) noFill_tuple_mul F.fills_int_mul F.slot_int_rmul repeat_tuple F.slot_int_index.lookup
      (call_meets F.slot_int_rmul (typeIs_int s k t) F.entry_int_rmul (F.args_int_rmul_2 _ _) (int_rmul_tuple k t l its.toArray n dd sl)
        ⟨ho, rfl, ⟨_, ho, rfl⟩, call_meets F.slot_tuple_mul ⟨_, ho, rfl⟩ F.entry_tuple_mul (F.args_tuple_mul_2 _ _) (tuple_mul_none l its.toArray n dd sl k t c0 c1 c2) ⟨ho, ?_⟩⟩)
    have e0 : k.toNat = 0 := by omega
    have q' := q h4
    rw [e0] at q'
    refine ⟨.ref s.heap.objs.size, _, I.laid (t' := s.toks) (o := .tup []) (fun b ob q => Heap.get?_push_of_some _ q) (Nat.le_refl _) ?_, rfl, q' _ (I.hok.fresh (Nat.le_refl _))⟩
    exact ⟨Nat.zero_le _, [], .nil, IsTup.new _ _⟩
def rCatL (K : PySem.W.Frag) : R2 := fun x y H Q => ∃ l b xs zs, x = .ref l ∧ y = .ref b ∧ SqL K H l xs ∧ SqL K H b zs ∧ xs.length + zs.length ≤ sizeLine ∧ ∀ p, H p = none → Q (.ref p) (upd H p (.lst (xs ++ zs)))
theorem op_catL : OpR X (binaryOp .Add) (rCatL X.K) := by
  intro pins s σ H x y v u Q I rx ry h
  obtain ⟨l, b, xs, zs, rfl, rfl, hH, hB, hz, q⟩ := h
  cases rx
  cases ry
  obtain ⟨its, r, ⟨⟨cls, dd, data, sl⟩, n, ho, hc, hd0, hd⟩, hs⟩ := I.list hH
  obtain ⟨its2, r2, ⟨⟨cls2, dd2, data2, sl2⟩, n2, ho2, hc2, hd02, hd2⟩, hs2⟩ := I.list hB
  simp only at hc hd hc2 hd2
  subst hc hd hc2 hd2
  have hlen := r.length
  have hlen2 := r2.length
  have e : its.toArray ++ its2.toArray = (its ++ its2).toArray := by simp
  refine concat_meets ⟨_, ho, rfl⟩ ⟨_, ho2, rfl⟩ noFill_list_add seq_list_add PySem.F.slot_list_add PySem.F.entry_list_add (PySem.F.args_list_add_2 _ _) (list_addW l b its.toArray its2.toArray n n2 dd dd2 sl sl2 (by simp only [List.size_toArray]; omega)) ⟨ho, ho2, ?_⟩
  rw [e]
  exact ⟨.ref _, _, I.lnew (t' := s.toks) (r.append r2) (by rw [List.length_append]; omega), rfl, q _ I.fresh⟩
end
end DL
end
section
set_option Elab.async false
set_option linter.all false
set_option maxRecDepth 100000
set_option maxHeartbeats 4000000
namespace DL
open PySem L2 PyProof.Rows
def titems : DV → Option (List DV)
  | .d (.tuple xs) => some (xs.map .d)
  | .t xs => some xs
  | _ => none
def litems (st : Sto) : DV → Option (List DV)
  | .d (.list xs) => some (xs.map .d)
  | .r a => match st a with | some (.lst xs) => some xs | _ => none
  | _ => none
def sitems (st : Sto) (x : DV) : Option (List DV) := match titems x with | some l => some l | none => litems st x
def fz (st : Sto) : DV → Option PyData
  | .d x => some x
  | .t _ => none
  | .r a => match st a with | some (.lst xs) => (datas xs).map .list | _ => none
section
variable {K : PySem.W.Frag} {F H : Hp} {st : Sto} {v w : V} {x y : DV}
theorem rv_int {i : Int} (r : RV K F v (.d (.int i))) : v = .int i := by cases r with | d r => cases r; rfl
theorem rv_bool {b : Bool} (r : RV K F v (.d (.bool b))) : v = .bl b := by cases r with | d r => cases r; rfl
theorem rv_str {z : Str} (r : RV K F v (.d (.str z))) : v = .str z := by cases r with | d r => cases r; rfl
theorem rv_none (r : RV K F v (.d .none)) : v = .non := by cases r with | d r => cases r; rfl
theorem titems_rv {xs : List DV} (r : RV K F v x) (h : titems x = some xs) : ∃ a vs, v = .ref a ∧ F a = some (.tup vs) ∧ RVs K F vs xs := by
  cases x with
  | d z =>
    cases z with
    | tuple ds => cases h; cases r with | d r => cases r with | tup q s => exact ⟨_, _, rfl, q, s.rvs⟩
    | _ => cases h
  | t ys => cases h; cases r with | t q s => exact ⟨_, _, rfl, q, s⟩
  | r a => cases h
theorem litems_rv {xs : List DV} (R : Rs K F H st) (r : RV K F v x) (h : litems st x = some xs) : ∃ a vs, v = .ref a ∧ SqL K H a vs ∧ RVs K F vs xs := by
  cases x with
  | d z =>
    cases z with
    | list ds => cases h; cases r with | d r => cases r with | lst q s => exact ⟨_, _, rfl, SqL.mono (Rs.ex F H st R) q, s.rvs⟩
    | _ => cases h
  | t ys => cases h
  | r a =>
    cases r
    unfold litems at h
    simp only at h
    cases e : st a with
    | none => rw [e] at h; cases h
    | some m =>
      rw [e] at h
      cases m with
      | lst ys =>
        cases h
        obtain ⟨vs, q, s⟩ := R.ok a _ e
        exact ⟨a, vs, rfl, SqL.of q, s⟩
      | dK _ => cases h
      | dT _ => cases h
      | ins _ _ => cases h
      | lk _ _ _ => cases h
theorem sitems_rv {xs : List DV} (R : Rs K F H st) (r : RV K F v x) (h : sitems st x = some xs) : ∃ a vs, v = .ref a ∧ (SqL K H a vs ∨ SqT K H a vs) ∧ RVs K F vs xs := by
  unfold sitems at h
  cases e : titems x with
  | some l =>
    rw [e] at h
    cases h
    obtain ⟨a, vs, e1, q, s⟩ := titems_rv r e
    exact ⟨a, vs, e1, .inr (SqT.of (R.sub _ _ q).1), s⟩
  | none =>
    rw [e] at h
    obtain ⟨a, vs, e1, q, s⟩ := litems_rv R r h
    exact ⟨a, vs, e1, .inl q, s⟩
theorem fz_dp {d : PyData} (R : Rs K F H st) (r : RV K F v x) (h : fz st x = some d) : Dp K H v d := by
  cases x with
  | d z => cases h; cases r with | d r => exact r.dp (Rs.ex F H st R)
  | t ys => cases h
  | r a =>
    cases r
    unfold fz at h
    simp only at h
    cases e : st a with
    | none => rw [e] at h; cases h
    | some m =>
      rw [e] at h
      cases m with
      | lst ys =>
        simp only at h
        cases e2 : datas ys with
        | none => rw [e2] at h; cases h
        | some ds =>
          rw [e2] at h
          cases h
          have e3 := datas_eq e2
          subst e3
          obtain ⟨vs, q, s⟩ := R.ok a _ e
          exact .lst (SqL.of q) (s.all.dp (Rs.ex F H st R))
      | dK _ => cases h
      | dT _ => cases h
      | ins _ _ => cases h
      | lk _ _ _ => cases h
/-- + -/
def qAdd (m : Bool) : R2D := fun x y st Q => match x, y with
  | .d (.int i), .d (.int j) => Q (.d (.int (i + j))) st
  | .d (.str a), .d (.str b) => a.length + b.length ≤ sizeLine ∧ Q (.d (.str (a ++ b))) st
  | _, _ => match titems x, titems y with
    | some a, some b => a.length + b.length ≤ sizeLine ∧ Q (mkT (a ++ b)) st
    | _, _ => match litems st x, litems st y with
      | some a, some b => a.length + b.length ≤ sizeLine ∧ newL m (a ++ b) st Q
      | _, _ => False
variable {X : Cx}
theorem op_qAdd (m : Bool) : ∃ r', OpR X (binaryOp .Add) r' ∧ S2 X.K r' (qAdd m) := by
  refine ⟨_, OpR.or2 (OpR.or2 op_add op_add_str) (OpR.or2 op_catA op_catL), ?_⟩
  intro F H st v w x y Qd Q R rv rw' h kk
  unfold qAdd at h
  split at h
  · cases rv_int rv; cases rv_int rw'
    exact .inl (.inl ⟨_, _, rfl, rfl, kk.at R (.d (.int _)) h⟩)
  · cases rv_str rv; cases rv_str rw'
    exact .inl (.inr ⟨_, _, rfl, rfl, h.1, kk.at R (.d (.str _)) h.2⟩)
  · refine .inr ?_
    split at h
    · rename_i a b ea eb
      obtain ⟨p, vs, rfl, q1, s1⟩ := titems_rv rv ea
      obtain ⟨p2, ws, rfl, q2, s2⟩ := titems_rv rw' eb
      have hl := s1.length
      have hl2 := s2.length
      refine .inl ⟨p, p2, vs, ws, rfl, rfl, SqT.of (R.sub _ _ q1).1, SqT.of (R.sub _ _ q2).1, by omega, fun e => ?_, fun _ e => ?_, fun _ _ p hp => new_tup R (s1.append s2) hp h.2 kk⟩
      · subst e
        cases s1
        exact kk.at R (mkT_rv q2 s2) h.2
      · subst e
        cases s2
        rw [List.append_nil] at h
        exact kk.at R (mkT_rv q1 s1) h.2
    · split at h
      · rename_i a b ea eb
        obtain ⟨p, vs, rfl, q1, s1⟩ := litems_rv R rv ea
        obtain ⟨p2, ws, rfl, q2, s2⟩ := litems_rv R rw' eb
        have hl := s1.length
        have hl2 := s2.length
        exact .inr ⟨p, p2, vs, ws, rfl, rfl, q1, q2, by omega, fun p hp => new_lst R (s1.append s2) hp h.2 kk⟩
      · exact h.elim
/-- dints in, an int out -/
def qI2 (C : Int → Int → Prop) (g : Int → Int → Int) : R2D := fun x y st Q => match x, y with
  | .d (.int i), .d (.int j) => C i j ∧ Q (.d (.int (g i j))) st
  | _, _ => False
theorem qI2_out {C : Int → Int → Prop} {g : Int → Int → Int} {x y : DV} {st : Sto} {Q : DV → Sto → Prop} (h : qI2 C g x y st Q) : ∃ i j, x = .d (.int i) ∧ y = .d (.int j) ∧ C i j ∧ Q (.d (.int (g i j))) st := by
  unfold qI2 at h
  split at h
  · exact ⟨_, _, rfl, rfl, h⟩
  · exact h.elim
theorem s2_I2 {C : Int → Int → Prop} {g : Int → Int → Int} : S2 K (rI C fun i j => .int (g i j)) (qI2 C g) := fun F H st v w x y Qd Q R rv rw' h kk => by
  obtain ⟨i, j, e1, e2, hc, q⟩ := qI2_out h
  subst e1 e2
  cases rv_int rv; cases rv_int rw'
  exact ⟨i, j, rfl, rfl, hc, kk.at R (.d (.int _)) q⟩
theorem s2_I0 {g : Int → Int → Int} : S2 K (rI0 fun i j => .int (g i j)) (qI2 (fun _ _ => True) g) := fun F H st v w x y Qd Q R rv rw' h kk => by
  obtain ⟨i, j, e1, e2, hc, q⟩ := qI2_out h
  subst e1 e2
  cases rv_int rv; cases rv_int rw'
  exact ⟨i, j, rfl, rfl, kk.at R (.d (.int _)) q⟩
def qSub : R2D := qI2 (fun _ _ => True) fun i j => i - j
def CMulA (i j : Int) : Prop := CMul i j ∨ CMulW i j
def qMul (m : Bool) : R2D := fun x y st Q => match x, y with
  | .d (.int i), .d (.int j) => CMulA i j ∧ Q (.d (.int (i * j))) st
  | _, .d (.int k) => match titems x with
    | some a => a ≠ [] ∧ k ≤ 1000 ∧ -1000 ≤ k ∧ a.length ≤ 1000 ∧ Q (mkT (List.replicate k.toNat a).flatten) st
    | none => False
  | _, _ => False
theorem rep_rvs {vs : List V} {xs : List DV} (r : RVs K F vs xs) : ∀ n : Nat, RVs K F (List.replicate n vs).flatten (List.replicate n xs).flatten
  | 0 => .nil
  | n + 1 => by
    rw [List.replicate_succ, List.replicate_succ, List.flatten_cons, List.flatten_cons]
    exact r.append (rep_rvs r n)
theorem op_qMul (m : Bool) : ∃ r', OpR X (binaryOp .Mult) r' ∧ S2 X.K r' (qMul m) := by
  refine ⟨_, OpR.or2 (OpR.or2 op_mul op_mulW) op_repA, ?_⟩
  intro F H st v w x y Qd Q R rv rw' h kk
  unfold qMul at h
  split at h
  · cases rv_int rv; cases rv_int rw'
    rcases h.1 with hc | hc
    · exact .inl (.inl ⟨_, _, rfl, rfl, hc, kk.at R (.d (.int _)) h.2⟩)
    · exact .inl (.inr ⟨_, _, rfl, rfl, hc, kk.at R (.d (.int _)) h.2⟩)
  · cases rv_int rw'
    refine .inr ?_
    split at h
    · rename_i a ea
      obtain ⟨p, vs, rfl, q1, s1⟩ := titems_rv rv ea
      have hl := s1.length
      obtain ⟨h1, h2, h3, h4, h5⟩ := h
      refine ⟨p, _, vs, rfl, rfl, SqT.of (R.sub _ _ q1).1, fun e => h1 ?_, h2, h3, by omega, fun e => ?_, fun _ p hp => new_tup R (rep_rvs s1 _) hp h5 kk⟩
      · subst e
        cases s1
        rfl
      · subst e
        have e1 : (List.replicate (1 : Int).toNat a).flatten = a := by simp
        rw [e1] at h5
        exact kk.at R (mkT_rv q1 s1) h5
    · exact h.elim
  · exact h.elim
def CFd (i j : Int) : Prop := (j ≠ 0 ∧ j.natAbs < 1073741824) ∨ CDivW i j
def qFdiv : R2D := qI2 CFd fun i j => i.fdiv j
theorem op_qFdiv : ∃ r', OpR X (binaryOp .FloorDiv) r' ∧ S2 X.K r' qFdiv := by
  refine ⟨_, OpR.or2 op_fdivN op_fdivW, ?_⟩
  intro F H st v w x y Qd Q R rv rw' h kk
  obtain ⟨i, j, rfl, rfl, hc, q⟩ := qI2_out h
  cases rv_int rv; cases rv_int rw'
  rcases hc with hc | hc
  · exact .inl ⟨i, j, rfl, rfl, hc, kk.at R (.d (.int _)) q⟩
  · refine .inr ⟨i, j, rfl, rfl, hc, ?_⟩
    have h0 : (0 : Int) < j := hc.1
    show Q (V.int (i / j)) H
    rw [show i / j = i.fdiv j from (Int.fdiv_eq_ediv_of_nonneg i (by omega)).symm]
    exact kk.at R (.d (.int _)) q
def qMod : R2D := qI2 (fun _ j => j ≠ 0) fun i j => i.fmod j
theorem op_qMod : ∃ r', OpR X (binaryOp .Mod) r' ∧ S2 X.K r' qMod := ⟨_, op_modN, s2_I2⟩
def qPow : R2D := qI2 CPow fun i j => i ^ j.toNat
theorem op_qPow : ∃ r', OpR X (binaryOp .Pow) r' ∧ S2 X.K r' qPow := ⟨_, op_pow, s2_I2⟩
theorem op_qSub : ∃ r', OpR X (binaryOp .Sub) r' ∧ S2 X.K r' qSub := ⟨_, op_sub, s2_I0⟩
theorem de_bin {op : Operator} {a b : Expr} {pos : Pos} {ta tb : TD} {r : R2D} (ho : ∃ r', OpR X (binaryOp op) r' ∧ S2 X.K r' r) (ha : DE X a ta) (hb : DE X b tb) : DE X (.BinOp a op b pos) (qOp r ta tb) :=
  let ⟨_, h1, h2⟩ := ho; de_op h1 h2 ha hb
theorem de_cp {op : CmpOp} {a b : Expr} {pos : Pos} {ta tb : TD} {r : R2D} (ho : ∃ r', OpR X (compareOp op) r' ∧ S2 X.K r' r) (hm : behindInMarks op b = false) (ha : DE X a ta) (hb : DE X b tb) : DE X (.Compare a [op] [b] pos) (qOp r ta tb) :=
  let ⟨_, h1, h2⟩ := ho; de_cmp h1 h2 hm ha hb
theorem test_sg {te : TE} {t : TD} (a : Sg (RV K) K te t) : Sg relT K (fun σ H Q => te σ H fun z H1 => ∃ k, z = .bl k ∧ Q k H1) (qTest t) := fun F σ H ε st Qd Q R E h kk =>
  a.go R E h kk fun F1 H1 s1 v x R1 E1 rv q kk => by
    obtain ⟨b, rfl, q⟩ := onB_out q
    cases rv_bool rv
    exact ⟨b, rfl, kk.at R1 rfl q⟩
theorem dt_cp {op : CmpOp} {a b : Expr} {pos : Pos} {ta tb : TD} {r : R2D} (ho : ∃ r', OpR X (compareOp op) r' ∧ S2 X.K r' r) (hm : behindInMarks op b = false) (ha : DE X a ta) (hb : DE X b tb) : DT X (.Compare a [op] [b] pos) (qTest (qOp r ta tb)) := by
  obtain ⟨r', h1, h2⟩ := ho
  obtain ⟨te, pa, sa⟩ := ha
  obtain ⟨tf, pb, sb⟩ := hb
  exact ⟨⟨_, pt_cmpR h1 pa pb hm, test_sg (Sg.bin sa sb (fun _ _ _ _ e h => RV.mono e h) h2)⟩⟩
def qEq : R2D := fun x y st Q => match fz st x, fz st y with
  | some a, some b => SeqAt.shaped a = true ∧ SeqAt.shaped b = true ∧ Q (.d (.bool (PyData.eqv a b))) st
  | _, _ => False
def qNe : R2D := fun x y st Q => match fz st x, fz st y with
  | some a, some b => SeqAt.shaped a = true ∧ SeqAt.shaped b = true ∧ Q (.d (.bool (!PyData.eqv a b))) st
  | _, _ => False
theorem op_qEq (hu : X.A.units + 64 < cLine) : ∃ r', OpR X (compareOp .Eq) r' ∧ S2 X.K r' qEq :=
  ⟨_, op_eqD hu, fun F H st v w x y Qd Q R rv rw' h kk => by
    unfold qEq at h
    split at h
    · rename_i a b e1 e2
      exact ⟨a, b, fz_dp R rv e1, fz_dp R rw' e2, h.1, h.2.1, kk.at R (.d (.bl _)) h.2.2⟩
    · exact h.elim⟩
theorem op_qNe (hu : X.A.units + 64 < cLine) : ∃ r', OpR X (compareOp .NotEq) r' ∧ S2 X.K r' qNe :=
  ⟨_, op_neD hu, fun F H st v w x y Qd Q R rv rw' h kk => by
    unfold qNe at h
    split at h
    · rename_i a b e1 e2
      exact ⟨a, b, fz_dp R rv e1, fz_dp R rw' e2, h.1, h.2.1, kk.at R (.d (.bl _)) h.2.2⟩
    · exact h.elim⟩
def dints : List DV → Option (List Int)
  | [] => some []
  | .d (.int i) :: r => (dints r).map (i :: ·)
  | _ :: _ => none
theorem dints_rvs : ∀ {vs : List V} {xs : List DV} {ns : List Int}, RVs K F vs xs → dints xs = some ns → vs = ns.map V.int ∧ xs = ns.map fun i => .d (.int i)
  | _, [], ns, r, h => by cases h; cases r; exact ⟨rfl, rfl⟩
  | v :: vs, .d (.int i) :: xs, ns, .cons r q, h => by
    cases e : dints xs with
    | none => simp [dints, e] at h
    | some l =>
      simp [dints, e] at h
      subst h
      obtain ⟨h1, h2⟩ := dints_rvs q e
      cases rv_int r
      exact ⟨by rw [h1]; rfl, by rw [h2]; rfl⟩
theorem dints_map : ∀ l : List Int, dints (l.map fun i => .d (.int i)) = some l
  | [] => rfl
  | i :: r => by simp [dints, dints_map r]
def qCmpI (g : Int → Int → Bool) : R2D := fun x y st Q => match x, y with
  | .d (.int i), .d (.int j) => Q (.d (.bool (g i j))) st
  | _, _ => False
theorem s2_cmpI {g : Int → Int → Bool} : S2 K (rI0 fun i j => .bl (g i j)) (qCmpI g) := fun F H st v w x y Qd Q R rv rw' h kk => by
  unfold qCmpI at h
  split at h
  · cases rv_int rv; cases rv_int rw'
    exact ⟨_, _, rfl, rfl, kk.at R (.d (.bl _)) h⟩
  · exact h.elim
def qLt : R2D := fun x y st Q => match x, y with
  | .d (.int i), .d (.int j) => Q (.d (.bool (decide (i < j)))) st
  | _, _ => match (titems x).bind dints, (titems y).bind dints with
    | some ns, some ms => Q (.d (.bool (HT.lexLt ns ms))) st
    | _, _ => False
theorem op_qLt (hu : X.A.units < cLine) : ∃ r', OpR X (compareOp .Lt) r' ∧ S2 X.K r' qLt := by
  refine ⟨_, OpR.or2 op_lt (op_ltT hu), ?_⟩
  intro F H st v w x y Qd Q R rv rw' h kk
  unfold qLt at h
  split at h
  · cases rv_int rv; cases rv_int rw'
    exact .inl ⟨_, _, rfl, rfl, kk.at R (.d (.bl _)) h⟩
  · split at h
    rotate_left
    · exact h.elim
    rename_i ns ms e13 e24
    have q := h
    obtain ⟨a, e1, e3⟩ := Option.bind_eq_some_iff.mp e13
    obtain ⟨b, e2, e4⟩ := Option.bind_eq_some_iff.mp e24
    obtain ⟨p, vs, rfl, q1, s1⟩ := titems_rv rv e1
    obtain ⟨p2, ws, rfl, q2, s2⟩ := titems_rv rw' e2
    obtain ⟨rfl, _⟩ := dints_rvs s1 e3
    obtain ⟨rfl, _⟩ := dints_rvs s2 e4
    exact .inr ⟨p, p2, ns, ms, rfl, rfl, SqT.of (R.sub _ _ q1).1, SqT.of (R.sub _ _ q2).1, kk.at R (.d (.bl _)) q⟩
def qLe : R2D := qCmpI fun i j => decide (i ≤ j)
def qGt : R2D := qCmpI fun i j => decide (j < i)
def qGe : R2D := qCmpI fun i j => decide (j ≤ i)
theorem op_qGt : ∃ r', OpR X (compareOp .Gt) r' ∧ S2 X.K r' qGt := ⟨_, op_gt, s2_cmpI⟩
theorem op_qGe : ∃ r', OpR X (compareOp .GtE) r' ∧ S2 X.K r' qGe := ⟨_, op_ge, s2_cmpI⟩
/-- is None -/
def isN : DV → Bool
  | .d .none => true
  | _ => false
def qIsN : R2D := fun x y st Q => y = .d .none ∧ Q (.d (.bool (isN x))) st
def qNotN : R2D := fun x y st Q => y = .d .none ∧ Q (.d (.bool (!isN x))) st
theorem rv_isN (r : RV K F v x) : decide (v = .non) = isN x := by
  cases r with
  | d r => cases r <;> rfl
  | r a => rfl
  | t _ _ => rfl
theorem op_qIsN : ∃ r', OpR X (compareOp .Is) r' ∧ S2 X.K r' qIsN := by
  refine ⟨_, op_isN, ?_⟩
  rintro F H st v w x y Qd Q R rv rw' ⟨rfl, q⟩ kk
  cases rv_none rw'
  refine ⟨rfl, ?_⟩
  rw [rv_isN rv]
  exact kk.at R (.d (.bl _)) q
theorem op_qNotN : ∃ r', OpR X (compareOp .IsNot) r' ∧ S2 X.K r' qNotN := by
  refine ⟨_, op_notN, ?_⟩
  rintro F H st v w x y Qd Q R rv rw' ⟨rfl, q⟩ kk
  cases rv_none rw'
  refine ⟨rfl, ?_⟩
  rw [rv_isN rv]
  exact kk.at R (.d (.bl _)) q
/-- unary minus -/
def qNeg : R1D := fun x st Q => match x with | .d (.int i) => Q (.d (.int (-i))) st | _ => False
theorem de_neg {a : Expr} {pos : Pos} {ta : TD} (ha : DE X a ta) : DE X (.UnaryOp .USub a pos) (qUn qNeg ta) :=
  de_un un_neg (fun F H st v x Qd Q R rv h kk => by
    unfold qNeg at h
    split at h
    · cases rv_int rv; exact ⟨_, rfl, kk.at R (.d (.int _)) h⟩
    · exact h.elim) ha
theorem atI_rv {vs : List V} {xs : List DV} {i : Int} {x : DV} (r : RVs K F vs xs) (h : atI xs i = some x) : ∃ v, atI vs i = some v ∧ RV K F v x := by
  unfold atI at h ⊢
  rw [r.length]
  cases e : ixN xs.length i with
  | none => rw [e] at h; cases h
  | some j =>
    rw [e] at h
    exact r.get' h
def qIx : R2D := fun x y st Q => match y with
  | .d (.int i) => match x with
    | .d (.str z) => z.length ≤ sizeLine ∧ (match atI z.cps.toList i with | some c => Q (.d (.str ⟨#[c]⟩)) st | none => False)
    | _ => match sitems st x with
      | some xs => (match atI xs i with | some z => Q z st | none => False)
      | none => False
  | _ => False
theorem de_ix {a b : Expr} {pos : Pos} {ta tb : TD} (ha : DE X a ta) (hb : DE X b tb) (hs : PlainIx b) : DE X (.Subscript a b pos) (qOp qIx ta tb) := by
  obtain ⟨te, pa, sa⟩ := ha
  obtain ⟨tf, pb, sb⟩ := hb
  refine ⟨⟨_, pe_ix ix_seq pa pb hs, Sg.bin sa sb (fun _ _ _ _ e h => RV.mono e h) ?_⟩⟩
  intro F H st v w x y Qd Q R rv rw' h kk
  unfold qIx at h
  split at h
  · cases rv_int rw'
    split at h
    · cases rv_str rv
      obtain ⟨h1, h⟩ := h
      split at h
      · rename_i c h2
        exact .inr (.inr ⟨_, _, c, rfl, rfl, h1, h2, kk.at R (.d (.str _)) h⟩)
      · exact h.elim
    · split at h
      · rename_i xs es
        split at h
        rotate_left
        · exact h.elim
        rename_i z ez
        have q := h
        obtain ⟨p, vs, rfl, hq, s⟩ := sitems_rv R rv es
        obtain ⟨u, eu, ru⟩ := atI_rv s ez
        rcases hq with hq | hq
        · exact .inl ⟨p, vs, _, u, rfl, rfl, hq, eu, kk.at R ru q⟩
        · exact .inr (.inl ⟨p, vs, _, u, rfl, rfl, hq, eu, kk.at R ru q⟩)
      · exact h.elim
  · exact h.elim
/-- parts of a slice -/
abbrev relO : Hp → Option Int → Option Int → Prop := fun _ a b => a = b
structure DO (X : Cx) (e : Option Expr) (t : Env → Sto → (Option Int → Sto → Prop) → Prop) : Prop where
  ex : ∃ te, PO X e te ∧ Sg relO X.K te t
def qNoPart : Env → Sto → (Option Int → Sto → Prop) → Prop := fun _ st Q => Q none st
def qPart (ta : TD) : Env → Sto → (Option Int → Sto → Prop) → Prop := fun ε st Q => ta ε st fun x s1 => match x with | .d (.int i) => Q (some i) s1 | _ => False
theorem do_none : DO X none qNoPart := ⟨⟨_, po_none, fun F σ H ε st Qd Q R E q kk => kk.at R rfl q⟩⟩
theorem do_some {e : Expr} {ta : TD} (h : DE X e ta) : DO X (some e) (qPart ta) := by
  obtain ⟨te, pa, sa⟩ := h
  refine ⟨⟨_, po_some pa, fun F σ H ε st Qd Q R E h kk => sa.go R E h kk fun F1 H1 s1 v x R1 E1 rv q kk => ?_⟩⟩
  split at q
  · cases rv_int rv
    exact ⟨_, rfl, kk.at R1 rfl q⟩
  · exact q.elim
def cutD {α : Type} (xs : List α) (lo hi : Option Int) : List α := (xs.drop (HT.sIx xs.length 0 lo)).take (HT.sIx xs.length xs.length hi - HT.sIx xs.length 0 lo)
theorem cut_rvs {vs : List V} {xs : List DV} (r : RVs K F vs xs) (lo hi : Option Int) : RVs K F (cutV vs lo hi) (cutD xs lo hi) := by
  unfold cutV cutD
  rw [r.length]
  exact (r.drop _).take _
theorem cutD_map {α β : Type} (f : α → β) (xs : List α) (lo hi : Option Int) : cutD (xs.map f) lo hi = (cutD xs lo hi).map f := by
  unfold cutD
  rw [List.length_map, List.map_take, List.map_drop]
def qSl (m : Bool) (te : TD) (tl th : Env → Sto → (Option Int → Sto → Prop) → Prop) : TD := fun ε st Q => te ε st fun x s1 => tl ε s1 fun lo s2 => th ε s2 fun hi s3 => match x with
  | .d (.str z) => z.length ≤ sizeLine ∧ Q (.d (.str (cutS z lo hi))) s3
  | _ => match titems x with
    | some xs => Q (mkT (cutD xs lo hi)) s3
    | none => match litems s3 x with
      | some xs => newL m (cutD xs lo hi) s3 Q
      | none => False
theorem de_sl {e : Expr} {lo hi : Option Expr} {p2 pos : Pos} {te : TD} {tl th : Env → Sto → (Option Int → Sto → Prop) → Prop} (m : Bool) (he : DE X e te) (hl : DO X lo tl) (hh : DO X hi th) : DE X (.Subscript e (.Slice lo hi none p2) pos) (qSl m te tl th) := by
  obtain ⟨t1, pa, sa⟩ := he
  obtain ⟨t2, pb, sb⟩ := hl
  obtain ⟨t3, pc, sc⟩ := hh
  refine ⟨⟨_, pe_slice (SlR.or (SlR.or sl_list sl_tupA) sl_str) pa pb pc, fun F σ H ε st Qd Q R E h kk => ?_⟩⟩
  refine sa.go R E h kk fun F1 H1 s1 v x R1 E1 rv h kk => ?_
  refine sb F1 σ H1 ε s1 _ _ R1 E1 h fun F2 l H2 l' s2 t2 R2 rl h => ?_
  refine sc F2 σ H2 ε s2 _ _ R2 (E1.mono t2.ex) h fun F3 u H3 u' s3 t3 R3 ru h => ?_
  cases rl; cases ru
  have rv3 := rv.mono (t2.trans t3).ex
  have kk3 : Kg (RV X.K) X.K F3 H3 s3 Qd Q := fun F4 z H4 z' s4 t4 R4 rz q4 => kk F4 z H4 z' s4 ((t2.trans t3).trans t4) R4 rz q4
  split at h
  · cases rv_str rv
    exact .inr ⟨_, rfl, h.1, kk3.at R3 (.d (.str _)) h.2⟩
  · split at h
    · rename_i xs ex
      obtain ⟨p, vs, rfl, q1, s1⟩ := titems_rv rv3 ex
      refine .inl (.inr ⟨p, vs, rfl, SqT.of (R3.sub _ _ q1).1, fun hw => ?_, fun _ p hp => new_tup R3 (cut_rvs s1 _ _) hp h kk3⟩)
      refine kk3.at R3 ?_ h
      have e : cutD xs l u = xs := by
        unfold cutD
        rw [← s1.length]
        rw [hw.1, hw.2, List.drop_zero, Nat.sub_zero, s1.length, List.take_length]
      rw [e]
      exact mkT_rv q1 s1
    · split at h
      · rename_i xs ex
        obtain ⟨p, vs, rfl, q1, s1⟩ := litems_rv R3 rv3 ex
        exact .inl (.inl ⟨p, vs, rfl, q1, fun p hp => new_lst R3 (cut_rvs s1 _ _) hp h kk3⟩)
      · exact h.elim
end
end DL
end
section
set_option Elab.async false
set_option linter.all false
set_option maxRecDepth 100000
set_option maxHeartbeats 4000000
namespace DL
open PySem L2 PyProof.Rows
structure EndsD where
  nx : Env → Sto → Prop
  rt : DV → Sto → Prop
  bk : Env → Sto → Prop := fun _ _ => False
  ct : Env → Sto → Prop := fun _ _ => False
abbrev TDs := EndsD → Env → Sto → Prop
abbrev TDg := DV → Env → Sto → (Env → Sto → Prop) → Prop
abbrev TDgs := List DV → Env → Sto → (Env → Sto → Prop) → Prop
abbrev TDi := Env → Sto → (List DV → (Sto → Prop) → Sto → Prop) → Prop
def KE (K : PySem.W.Frag) (F H : Hp) (st : Sto) (Dn : Env → Sto → Prop) (N : L2.St → Hp → Prop) : Prop :=
  ∀ F' σ' H' ε' st', Step F H st F' H' st' → Rs K F' H' st' → RE K F' σ' ε' → Dn ε' st' → N σ' H'
structure KS (K : PySem.W.Frag) (F H : Hp) (st : Sto) (Dd : EndsD) (D : Ends) : Prop where
  nx : KE K F H st Dd.nx D.nx
  rt : Kg (RV K) K F H st Dd.rt D.rt
  bk : KE K F H st Dd.bk D.bk
  ct : KE K F H st Dd.ct D.ct
theorem KE.step {K : PySem.W.Frag} {F H F1 H1 : Hp} {st st1 : Sto} {Dn : Env → Sto → Prop} {N : L2.St → Hp → Prop} (k : KE K F H st Dn N) (t : Step F H st F1 H1 st1) : KE K F1 H1 st1 Dn N :=
  fun F' σ' H' ε' st' s R E q => k F' σ' H' ε' st' (t.trans s) R E q
theorem Kg.step {α β : Type} {rel : Hp → α → β → Prop} {K : PySem.W.Frag} {F H F1 H1 : Hp} {st st1 : Sto} {Qd : β → Sto → Prop} {Q : α → Hp → Prop} (k : Kg rel K F H st Qd Q) (t : Step F H st F1 H1 st1) : Kg rel K F1 H1 st1 Qd Q :=
  fun F' v H' x st' s R r q => k F' v H' x st' (t.trans s) R r q
theorem KS.step {K : PySem.W.Frag} {F H F1 H1 : Hp} {st st1 : Sto} {Dd : EndsD} {D : Ends} (k : KS K F H st Dd D) (t : Step F H st F1 H1 st1) : KS K F1 H1 st1 Dd D :=
  ⟨k.nx.step t, k.rt.step t, k.bk.step t, k.ct.step t⟩
theorem KE.at {K : PySem.W.Frag} {F H : Hp} {st : Sto} {σ : L2.St} {ε : Env} {Dn : Env → Sto → Prop} {N : L2.St → Hp → Prop} (k : KE K F H st Dn N) (R : Rs K F H st) (E : RE K F σ ε) (q : Dn ε st) : N σ H :=
  k F σ H ε st (Step.refl _ _ _) R E q
def SS (K : PySem.W.Frag) (ts : TS) (t : TDs) : Prop := ∀ F σ H ε st Dd D, Rs K F H st → RE K F σ ε → t Dd ε st → KS K F H st Dd D → ts D σ H
structure DS (X : Cx) (s : Stmt) (t : TDs) : Prop where
  ex : ∃ ts, PS X s ts ∧ SS X.K ts t
structure DSs (X : Cx) (s : List Stmt) (t : TDs) : Prop where
  ex : ∃ ts, PSs X s ts ∧ SS X.K ts t
structure DG (X : Cx) (tg : Expr) (ws : List Nat) (t : TDg) : Prop where
  ex : ∃ g, PG X tg g ∧ ∀ F σ H ε st v x Qd Q, Rs X.K F H st → RE X.K F σ ε → RV X.K F v x → t x ε st Qd →
    (∀ F' σ' H' ε' st', Step F H st F' H' st' → Rs X.K F' H' st' → RE X.K F' σ' ε' → (∀ vs : List Nat, (∀ i ∈ ws, i ∈ vs) → wipe σ' vs = wipe σ vs) → Qd ε' st' → Q σ' H') → g v σ H Q
structure DGs (X : Cx) (tg : List Expr) (ws : List Nat) (t : TDgs) : Prop where
  ex : ∃ g, PGs X tg g ∧ ∀ F σ H ε st v x Qd Q, Rs X.K F H st → RE X.K F σ ε → RVs X.K F v x → t x ε st Qd →
    (∀ F' σ' H' ε' st', Step F H st F' H' st' → Rs X.K F' H' st' → RE X.K F' σ' ε' → (∀ vs : List Nat, (∀ i ∈ ws, i ∈ vs) → wipe σ' vs = wipe σ vs) → Qd ε' st' → Q σ' H') → g v σ H Q
/-- what an iterator of these items does -/
def Src (K : PySem.W.Frag) (F0 : Hp) (J : It) (items : List DV) (inv : Sto → Prop) : Prop := ∀ F H st, (∀ a o, F0 a = some o → F a = some o) → Rs K F H st → inv st →
  (∀ i x, items[i]? = some x → J.go i H ∧ ∀ v H', J.yld i H v H' → ∃ F', Step F H st F' H' st ∧ Rs K F' H' st ∧ RV K F' v x) ∧ J.stop items.length H
structure DI (X : Cx) (tg iter : Expr) (t : TDi) : Prop where
  ex : ∃ wi, PI X tg iter wi ∧ ∀ F σ H ε st Qd R', Rs X.K F H st → RE X.K F σ ε → t ε st Qd →
    (∀ F' J H' items inv st', Step F H st F' H' st' → Rs X.K F' H' st' → Src X.K F' J items inv → Qd items inv st' → R' J H') → wi σ H R'
section
variable {P : Program} {w : World} {K : PySem.W.Frag} {mg : Str → Option Value} {base : Heap} {X : Cx} {N : List Str} {sc fs : Scope} {k : Nat}
def qSeq (t u : TDs) : TDs := fun D ε st => t { D with nx := u D } ε st
def qNext : TDs := fun D ε st => D.nx ε st
theorem ds_nil : DSs X [] qNext := ⟨⟨_, pss_nil, fun F σ H ε st Dd D R E h kk => kk.nx.at R E h⟩⟩
theorem ds_cons {s : Stmt} {r : List Stmt} {t u : TDs} (h : DS X s t) (hr : DSs X r u) : DSs X (s :: r) (qSeq t u) := by
  obtain ⟨ts, p, a⟩ := h
  obtain ⟨us, q, b⟩ := hr
  refine ⟨⟨_, pss_cons p q, fun F σ H ε st Dd D R E h kk => ?_⟩⟩
  exact a F σ H ε st _ _ R E h ⟨fun F' σ' H' ε' st' s R' E' q => b F' σ' H' ε' st' _ _ R' E' q (kk.step s), kk.rt, kk.bk, kk.ct⟩
theorem ds_one {s : Stmt} {t : TDs} (h : DS X s t) : DSs X [s] t := let ⟨ts, p, a⟩ := h.ex; ⟨⟨ts, pss_one p, a⟩⟩
def qNever : TDs := fun _ _ _ => False
theorem ds_never {s : Stmt} : DS X s qNever := ⟨⟨_, ps_never, fun F σ H ε st Dd D R E h kk => h.elim⟩⟩
def qDrop (te : TD) : TDs := fun D ε st => te ε st fun _ s1 => D.nx ε s1
theorem ds_expr {e : Expr} {te : TD} {pos : Pos} (h : DE X e te) (hs : swapsWith e none pos.line X.env = pure false := by rfl) : DS X (.Expr e pos) (qDrop te) := by
  obtain ⟨t1, p, a⟩ := h
  refine ⟨⟨_, ps_expr p hs, fun F σ H ε st Dd D R E h kk => ?_⟩⟩
  exact a F σ H ε st _ _ R E h fun F' v H' x st' s R' r q => kk.nx F' σ H' ε st' s R' (E.mono s.ex) q
def qRet (te : TD) : TDs := fun D ε st => te ε st D.rt
theorem ds_ret {e : Expr} {te : TD} {pos : Pos} (h : DE X e te) : DS X (.Return (some e) pos) (qRet te) := by
  obtain ⟨t1, p, a⟩ := h
  exact ⟨⟨_, ps_ret p, fun F σ H ε st Dd D R E h kk => a F σ H ε st _ _ R E h kk.rt⟩⟩
def qRetN : TDs := fun D _ st => D.rt (.d .none) st
def qIfS (c : TDt) (t u : TDs) : TDs := fun D ε st => c ε st fun b s1 => if b = true then t D ε s1 else u D ε s1
theorem ds_if {c : Expr} {a b : List Stmt} {pos : Pos} {tc : TDt} {t u : TDs} (hc : DT X c tc) (ha : DSs X a t) (hb : DSs X b u) : DS X (.If c a b pos) (qIfS tc t u) := by
  obtain ⟨t0, p0, a0⟩ := hc
  obtain ⟨t1, p1, a1⟩ := ha
  obtain ⟨t2, p2, a2⟩ := hb
  refine ⟨⟨_, ps_if p0 p1 p2, fun F σ H ε st Dd D R E h kk => ?_⟩⟩
  refine a0 F σ H ε st _ _ R E h fun F' v H' x st' s R' r q => ?_
  cases r
  cases v with
  | true => exact a1 F' σ H' ε st' _ _ R' (E.mono s.ex) q (kk.step s)
  | false => exact a2 F' σ H' ε st' _ _ R' (E.mono s.ex) q (kk.step s)
theorem wipe_set {σ : L2.St} {i : Nat} {v : Option V} : ∀ {vs : List Nat}, i ∈ vs → wipe (σ.set i v) vs = wipe σ vs := by
  have comm : ∀ {vs : List Nat} {i : Nat} {σ : L2.St} {v : Option V}, i ∉ vs → wipe (σ.set i v) vs = (wipe σ vs).set i v := by
    intro vs
    induction vs with
    | nil => intros; rfl
    | cons j vs ih =>
      intro i σ v h
      have h1 : i ≠ j := fun e => h (by rw [e]; exact List.mem_cons_self)
      have h2 : i ∉ vs := fun e => h (List.mem_cons_of_mem _ e)
      show (wipe (σ.set i v) vs).set j none = ((wipe σ vs).set j none).set i v
      rw [ih h2, List.set_comm _ _ h1]
  intro vs
  induction vs with
  | nil => intro h; cases h
  | cons j vs ih =>
    intro h
    show (wipe (σ.set i v) vs).set j none = (wipe σ vs).set j none
    by_cases e : i ∈ vs
    · rw [ih e]
    · have e2 : i = j := by
        rcases List.mem_cons.mp h with q | q
        · exact q
        · exact absurd q e
      rw [comm e, ← e2, List.set_set]
def qgN (i : Nat) : TDg := fun x ε st Q => Q (ε.set i (some x)) st
theorem loc_of {i : Nat} {x : Str} (c : Cok P w K mg base X N sc fs k) (h : locB N sc fs i x = true) : X.N[i]? = some x ∧ L2.Loc X.env.scope x ∧ (X.fn x = true ∨ X.env.scope.names.lookup x = some .local) := by
  unfold locB at h
  simp only [Bool.and_eq_true, decide_eq_true_eq] at h
  obtain ⟨h1, h2⟩ := h
  refine ⟨by rw [c.hN]; exact h1, ?_, ?_⟩
  · unfold L2.Loc
    rw [c.hs]
    split at h2 <;> first | exact .inl (by assumption) | exact .inr (by assumption) | cases h2
  · rw [c.hs]
    split at h2
    · exact .inr (by assumption)
    · split at h2
      · exact .inl (c.fn _ (by assumption))
      · cases h2
    · cases h2
theorem dg_name {i : Nat} {x : Str} {pos : Pos} (c : Cok P w K mg base X N sc fs k) (h : locB N sc fs i x = true) : DG X (.Name x pos) [i] (qgN i) := by
  obtain ⟨h1, h2, h3⟩ := loc_of c h
  refine ⟨⟨gName i, pg_name (by rw [c.hN]; exact c.nd) h1 h2 h3, fun F σ H ε st v x Qd Q R E r q kk => ?_⟩⟩
  exact kk F _ H _ st (Step.refl _ _ _) R (E.set r i) (fun vs hv => wipe_set (hv i (by simp))) q
def qgNil : TDgs := fun vs ε st Q => vs = [] ∧ Q ε st
def qgCons (t : TDg) (u : TDgs) : TDgs := fun vs ε st Q => match vs with | [] => False | v :: r => t v ε st fun ε' s' => u r ε' s' Q
theorem dgs_nil : DGs X [] [] qgNil := ⟨⟨_, pgs_nil, fun F σ H ε st v x Qd Q R E r ⟨e, q⟩ kk => by
  subst e
  cases r
  exact ⟨rfl, kk F σ H ε st (Step.refl _ _ _) R E (fun _ _ => rfl) q⟩⟩⟩
theorem dgs_cons {e : Expr} {es : List Expr} {w1 w2 : List Nat} {t : TDg} {u : TDgs} (h : DG X e w1 t) (hr : DGs X es w2 u)
    (hs : (assignEach (e :: es) X.env).map (·.2) = assign e X.env :: (assignEach es X.env).map (·.2) := by rfl) : DGs X (e :: es) (w1 ++ w2) (qgCons t u) := by
  obtain ⟨g, p, a⟩ := h
  obtain ⟨gs, q, b⟩ := hr
  refine ⟨⟨_, pgs_cons p q hs, fun F σ H ε st v x Qd Q R E r h kk => ?_⟩⟩
  cases r with
  | nil => exact h.elim
  | cons r rr =>
    refine ⟨_, _, rfl, a F σ H ε st _ _ _ _ R E r h fun F1 σ1 H1 ε1 st1 s1 R1 E1 w1' h1 => ?_⟩
    exact b F1 σ1 H1 ε1 st1 _ _ _ _ R1 E1 (rr.mono s1.ex) h1 fun F2 σ2 H2 ε2 st2 s2 R2 E2 w2' h2 =>
      kk F2 σ2 H2 ε2 st2 (s1.trans s2) R2 E2 (fun vs hv => (w2' vs fun i hi => hv i (List.mem_append_right _ hi)).trans (w1' vs fun i hi => hv i (List.mem_append_left _ hi))) h2
def qgT (n : Nat) (t : TDgs) : TDg := fun x ε st Q => match titems x with | some xs => xs.length = n ∧ t xs ε st Q | none => False
theorem dg_tup {es : List Expr} {j : Nat} {pos : Pos} {ws : List Nat} {n : Nat} {t : TDgs} (c : Cok P w K mg base X N sc fs k) (h : DGs X es ws t) (hn : (assignEach es X.env).length = n := by rfl) (hst : (assignEach es X.env).findIdx? (·.1) = none := by rfl) : DG X (.Tuple es j pos) ws (qgT n t) := by
  obtain ⟨g, p, a⟩ := h
  refine ⟨⟨_, pg_tup c.calm p hn hst, fun F σ H ε st v x Qd Q R E r h kk => ?_⟩⟩
  unfold qgT at h
  split at h
  · rename_i xs ex
    obtain ⟨b, vs, rfl, q1, s1⟩ := titems_rv r ex
    exact ⟨b, vs, rfl, SqT.of (R.sub _ _ q1).1, s1.length.trans h.1, a F σ H ε st vs xs Qd Q R E s1 h.2 kk⟩
  · exact h.elim
def qAsg (te : TD) (g : TDg) : TDs := fun D ε st => te ε st fun x s1 => g x ε s1 D.nx
/-- an environment that bears a scope alone, for the looks at stores -/
def envS (sc : Scope) : PySem.Env := { scope := sc, locals := 0, globals := 0, cells := [], qual := Str.empty, func := none, code := .none, frame := none, builtins := 0 }
theorem kindOf_S (c : Cok P w K mg base X N sc fs k) : ∀ x, X.env.kindOf x = (envS sc).kindOf x := fun x => by
  unfold PySem.Env.kindOf
  rw [c.hs]
  rfl
theorem blockKind_S (c : Cok P w K mg base X N sc fs k) : X.env.blockKind = (envS sc).blockKind := by
  unfold PySem.Env.blockKind
  rw [c.hs]
  rfl
theorem swapped_S (c : Cok P w K mg base X N sc fs k) (ts : List Expr) (v : Expr) : swappedStores ts v X.env = swappedStores ts v (envS sc) := by
  unfold swappedStores
  simp only [kindOf_S c, blockKind_S c]
theorem swaps_S (c : Cok P w K mg base X N sc fs k) (v : Expr) (t : Option Expr) (l : Nat) : swapsWith v t l X.env = swapsWith v t l (envS sc) := by
  unfold swapsWith
  simp only [kindOf_S c, blockKind_S c, c.hs]
  rfl
theorem swapsS_S (c : Cok P w K mg base X N sc fs k) (ts : List Expr) (v : Expr) (l : Nat) : swapsWithSole ts v l X.env = swapsWithSole ts v l (envS sc) := by
  unfold swapsWithSole
  split
  · exact swaps_S c _ _ _
  · rfl
theorem ds_asg {tg e : Expr} {pos : Pos} {ws : List Nat} {te : TD} {g : TDg} (c : Cok P w K mg base X N sc fs k) (he : DE X e te) (hg : DG X tg ws g) (hs : swapsWithSole [tg] e pos.line (envS sc) = pure false) (hw : swappedStores [tg] e (envS sc) = pure none) (h1 : (assignEach [tg] X.env).map (·.2) = [assign tg X.env] := by rfl) : DS X (.Assign [tg] e pos) (qAsg te g) := by
  obtain ⟨t1, p1, a1⟩ := he
  obtain ⟨t2, p2, a2⟩ := hg
  refine ⟨⟨_, ps_asg p1 p2 ((swapsS_S c _ _ _).trans hs) ((swapped_S c _ _).trans hw) h1, fun F σ H ε st Dd D R E h kk => ?_⟩⟩
  refine a1 F σ H ε st _ _ R E h fun F1 v H1 x st1 s1 R1 r q => ?_
  exact a2 F1 σ H1 ε st1 v x _ _ R1 (E.mono s1.ex) r q fun F2 σ2 H2 ε2 st2 s2 R2 E2 _ q2 => kk.nx F2 σ2 H2 ε2 st2 (s1.trans s2) R2 E2 q2
/-- a, b = x, y stored from the right -/
def qPar (i j : Nat) (ta : TDa) : TDs := fun D ε st => ta ε st fun xs s1 => match xs with | [x, y] => D.nx ((ε.set i (some x)).set j (some y)) s1 | _ => False
def parB (N : List Str) (sc : Scope) (i j : Nat) (x y : Str) : Bool := decide (N[i]? = some x) && decide (N[j]? = some y) && decide (i ≠ j) && decide (sc.names.lookup x = some .local) && decide (sc.names.lookup y = some .local)
theorem ds_par {i j : Nat} {x y : Str} {a b : Expr} {ta : TDa} {px py pt pos : Pos} {kt k2 pt2} (c : Cok P w K mg base X N sc fs k) (hb : parB N sc i j x y = true) (ha : DA X [a, b] ta)
    (hw : swappedStores [.Tuple [.Name x px, .Name y py] kt pt] (.Tuple [a, b] k2 pt2) (envS sc) = pure (some [x, y])) :
    DS X (.Assign [.Tuple [.Name x px, .Name y py] kt pt] (.Tuple [a, b] k2 pt2) pos) (qPar i j ta) := by
  unfold parB at hb
  simp only [Bool.and_eq_true, decide_eq_true_eq] at hb
  obtain ⟨⟨⟨⟨h1, h2⟩, h3⟩, h4⟩, h5⟩ := hb
  obtain ⟨t1, p1, a1⟩ := ha
  refine ⟨⟨_, ps_par c.calm (by rw [c.hN]; exact c.nd) (by rw [c.hN]; exact h1) (by rw [c.hN]; exact h2) h3 (by rw [c.hs]; exact h4) (by rw [c.hs]; exact h5) p1 ((swapped_S c _ _).trans hw), fun F σ H ε st Dd D R E h kk => ?_⟩⟩
  refine a1 F σ H ε st _ _ R E h fun F1 v H1 x st1 s1 R1 r q => ?_
  split at q
  · cases r with
    | cons r1 r =>
      cases r with
      | cons r2 r =>
        cases r
        exact ⟨_, _, rfl, kk.nx F1 _ H1 _ st1 s1 R1 (((E.mono s1.ex).set r1 i).set r2 j) q⟩
  · exact q.elim
def qPar3 (i j l : Nat) (ta : TDa) : TDs := fun D ε st => ta ε st fun xs s1 => match xs with | [x, y, z] => D.nx (((ε.set i (some x)).set j (some y)).set l (some z)) s1 | _ => False
/-- name op= e, ints -/
def qAug (i : Nat) (te : TD) (g : Int → Int → Int) : TDs := fun D ε st => match ε[i]? with
  | some (some (.d (.int a))) => te ε st fun y s1 => (match y with | .d (.int b) => D.nx (ε.set i (some (.d (.int (g a b))))) s1 | _ => False)
  | _ => False
/-- the invariant W with its measure -/
def qWhile (c : TDt) (tb : TDs) : TDs := fun D ε st => ∃ W : Nat → Env → Sto → Prop, (∃ m, W m ε st) ∧ ∀ m ε st, W m ε st →
  c ε st fun b s1 => if b = true then tb { D with nx := fun ε' s' => ∃ m', m' < m ∧ W m' ε' s', ct := fun ε' s' => ∃ m', m' < m ∧ W m' ε' s', bk := D.nx } ε s1 else D.nx ε s1
theorem ds_while {e : Expr} {body : List Stmt} {pos : Pos} {tc : TDt} {tb : TDs} (c : Cok P w K mg base X N sc fs k) (hc : DT X e tc) (hb : DSs X body tb) : DS X (.While e body [] pos) (qWhile tc tb) := by
  obtain ⟨t0, p0, a0⟩ := hc
  obtain ⟨t1, p1, a1⟩ := hb
  refine ⟨⟨_, ps_while c.pass p0 p1, fun F σ H ε st Dd D R E h kk => ?_⟩⟩
  obtain ⟨W, ⟨m0, h0⟩, hW⟩ := h
  refine ⟨fun m σ' H' => ∃ F' ε' st', Step F H st F' H' st' ∧ Rs X.K F' H' st' ∧ RE X.K F' σ' ε' ∧ W m ε' st', ⟨m0, F, ε, st, Step.refl _ _ _, R, E, h0⟩, ?_⟩
  rintro m σ' H' ⟨F1, ε1, st1, s1, R1, E1, w1⟩
  refine a0 F1 σ' H' ε1 st1 _ _ R1 E1 (hW m ε1 st1 w1) fun F2 b H2 b' st2 s2 R2 r q => ?_
  cases r
  cases b with
  | true =>
    refine ⟨fun σ3 H3 => ∃ m', m' < m ∧ ∃ F3 ε3 st3, Step F H st F3 H3 st3 ∧ Rs X.K F3 H3 st3 ∧ RE X.K F3 σ3 ε3 ∧ W m' ε3 st3, fun σ3 H3 ⟨m', l, q⟩ => ⟨m', l, q⟩, ?_⟩
    have s12 := s1.trans s2
    refine a1 F2 σ' H2 ε1 st2 _ _ R2 (E1.mono s2.ex) q ⟨?_, (kk.step s12).rt, (kk.step s12).nx, ?_⟩
    · rintro F3 σ3 H3 ε3 st3 s3 R3 E3 ⟨m', l, w3⟩
      exact ⟨m', l, F3, ε3, st3, s12.trans s3, R3, E3, w3⟩
    · rintro F3 σ3 H3 ε3 st3 s3 R3 E3 ⟨m', l, w3⟩
      exact ⟨m', l, F3, ε3, st3, s12.trans s3, R3, E3, w3⟩
  | false => exact kk.nx F2 σ' H2 ε1 st2 (s1.trans s2) R2 (E1.mono s2.ex) q
def qLoop (inv : Sto → Prop) (g : TDg) (tb : TDs) (D : EndsD) : List DV → Env → Sto → Prop
  | [], ε, st => inv st ∧ D.nx ε st
  | x :: r, ε, st => inv st ∧ g x ε st fun ε1 s1 => tb { D with nx := qLoop inv g tb D r, ct := qLoop inv g tb D r, bk := D.nx } ε1 s1
def qFor (ti : TDi) (g : TDg) (tb : TDs) : TDs := fun D ε st => ti ε st fun items inv s1 => qLoop inv g tb D items ε s1
theorem qLoop_inv {inv : Sto → Prop} {g : TDg} {tb : TDs} {D : EndsD} {l : List DV} {ε : Env} {st : Sto} (h : qLoop inv g tb D l ε st) : inv st := by
  cases l with
  | nil => exact h.1
  | cons x r => exact h.1
theorem ds_for {tg iter : Expr} {body : List Stmt} {pos : Pos} {ws : List Nat} {ti : TDi} {g : TDg} {tb : TDs} (c : Cok P w K mg base X N sc fs k) (hi : DI X tg iter ti) (hg : DG X tg ws g) (hb : DSs X body tb) (hs : ∀ x, foldedSetIterable iter X.env x = pure x := by intro _; rfl) : DS X (.For tg iter body [] pos) (qFor ti g tb) := by
  obtain ⟨wi, p0, a0⟩ := hi
  obtain ⟨gg, p1, a1⟩ := hg
  obtain ⟨ts, p2, a2⟩ := hb
  refine ⟨⟨_, ps_for c.pass c.calm p0 p1 p2 hs, fun F σ H ε st Dd D R E h kk => ?_⟩⟩
  refine a0 F σ H ε st _ _ R E h fun F1 J H1 items inv st1 s1 R1 src q => ?_
  refine ⟨fun i m σ' H' => i ≤ items.length ∧ m = items.length - i ∧ ∃ F' ε' st', Step F1 H1 st1 F' H' st' ∧ Rs X.K F' H' st' ∧ RE X.K F' σ' ε' ∧ qLoop inv g tb Dd (items.drop i) ε' st',
    ⟨items.length, Nat.zero_le _, by omega, F1, ε, st1, Step.refl _ _ _, R1, E.mono s1.ex, by rw [List.drop_zero]; exact q⟩, ?_⟩
  rintro i m σ' H' ⟨hi, rfl, F2, ε2, st2, s2, R2, E2, q2⟩
  have iv := qLoop_inv q2
  obtain ⟨src1, src2⟩ := src F2 H' st2 s2.ex R2 iv
  have s12 := s1.trans s2
  by_cases hlt : i < items.length
  · have ed : items.drop i = items[i] :: items.drop (i + 1) := List.drop_eq_getElem_cons hlt
    rw [ed] at q2
    obtain ⟨go, yl⟩ := src1 i items[i] (List.getElem?_eq_getElem hlt)
    refine .inr ⟨go, fun σ' H' => ∃ F' ε' st', Step F1 H1 st1 F' H' st' ∧ Rs X.K F' H' st' ∧ RE X.K F' σ' ε' ∧ qLoop inv g tb Dd (items.drop (i + 1)) ε' st', fun σ3 H3 q3 => ⟨items.length - (i + 1), by omega, hlt, rfl, q3⟩, fun v H3 y => ?_⟩
    obtain ⟨F3, s3, R3, r3⟩ := yl v H3 y
    refine a1 F3 σ' H3 ε2 st2 v items[i] _ _ R3 (E2.mono s3.ex) r3 q2.2 fun F4 σ4 H4 ε4 st4 s4 R4 E4 _ q4 => ?_
    have s24 := s2.trans (s3.trans s4)
    refine a2 F4 σ4 H4 ε4 st4 _ _ R4 E4 q4 ⟨?_, (kk.step (s1.trans s24)).rt, (kk.step (s1.trans s24)).nx, ?_⟩
    · exact fun F5 σ5 H5 ε5 st5 s5 R5 E5 q5 => ⟨F5, ε5, st5, s24.trans s5, R5, E5, q5⟩
    · exact fun F5 σ5 H5 ε5 st5 s5 R5 E5 q5 => ⟨F5, ε5, st5, s24.trans s5, R5, E5, q5⟩
  · have e : i = items.length := by omega
    subst e
    rw [List.drop_length] at q2
    exact .inl ⟨src2, kk.nx F2 σ' H' ε2 st2 s12 R2 E2 q2.2⟩
theorem Step.hid {F H F' H' : Hp} {st st' : Sto} {p : Addr} {o : HO} (s : Step F H st F' H' st') (h : H p = some o) (f : F p = none) (e : st p = none) (ht : ∀ ts, o ≠ .tup ts := by intro _ z; cases z) : H' p = some o ∧ F' p = none ∧ st' p = none := by
  obtain ⟨h1, h2⟩ := s.pres p o h e
  refine ⟨h1, ?_, h2⟩
  cases q : F' p with
  | none => rfl
  | some u =>
    rcases s.fnew p u q with z | z | z | ⟨ts, z⟩
    · exact absurd f z
    · rw [h] at z; cases z
    · exact absurd e z
    · rw [h] at z
      cases z
      exact absurd rfl (ht ts)
theorem Step.hput {F H F' H' : Hp} {st st' : Sto} {p : Addr} {o : HO} (s : Step F H st F' H' st') (h : H p = none) : Step F H st F' (upd H' p o) st' :=
  ⟨s.ex, fun a u e k => ⟨by rw [upd_ne (fun q => by rw [q, h] at e; cases e)]; exact (s.pres a u e k).1, (s.pres a u e k).2⟩, s.fnew⟩
/-- a hidden list comes into sight -/
theorem seen_lst {F0 H0 F H : Hp} {st0 st : Sto} {p : Addr} {vs : List V} {xs : List DV} {m : Bool} {Qd : DV → Sto → Prop} {Q : VK} (s : Step F0 H0 st0 F H st) (h0 : H0 p = none) (R : Rs K F H st) (hp : H p = some (.lst vs)) (f : F p = none) (e : st p = none) (r : RVs K F vs xs)
    (q : newL m xs st Qd) (kk : Kg (RV K) K F0 H0 st0 Qd Q) : Q (.ref p) H := by
  cases m with
  | true =>
    refine kk F (.ref p) H (.r p) (up st p (.lst xs)) ⟨s.ex, fun a u ha k => ?_, s.fnew⟩ ⟨fun a u ha => ?_, fun a m ha => ?_⟩ (.r p) (q p e)
    · rw [up_ne (fun z => by rw [z, h0] at ha; cases ha)]; exact s.pres a u ha k
    · rw [up_ne (fun z => by rw [z, f] at ha; cases ha)]; exact R.sub a u ha
    · by_cases z : a = p
      · subst z; rw [up_same] at ha; cases ha; exact ⟨vs, hp, r⟩
      · rw [up_ne z] at ha; exact R.ok a m ha
  | false =>
    unfold newL at q
    simp only at q
    split at q
    rotate_left
    · exact q.elim
    rename_i ds ed
    have ed2 := datas_eq ed
    subst ed2
    have ex : ∀ a o, F a = some o → upd F p (.lst vs) a = some o := fun a o ha => by rw [upd_ne (fun z => by rw [z, f] at ha; cases ha)]; exact ha
    refine kk (upd F p (.lst vs)) (.ref p) H (.d (.list ds)) st ⟨fun a o ha => ex a o (s.ex a o ha), s.pres, fun a u ha => ?_⟩ ⟨fun a u ha => ?_, fun a m ha => MOk.mono ex rfl (R.ok a m ha)⟩ (.d (.lst (SqL.of upd_same) (r.mono ex).all)) q
    · by_cases z : a = p
      · subst z; exact .inr (.inl h0)
      · rw [upd_ne z] at ha; exact s.fnew a u ha
    · by_cases z : a = p
      · subst z; rw [upd_same] at ha; cases ha; exact ⟨hp, e⟩
      · rw [upd_ne z] at ha; exact R.sub a u ha
def qComp (inv : Sto → Prop) (g : TDg) (tt : TDt) (te : TD) (ε : Env) (Kc : List DV → Sto → Prop) : List DV → List DV → Sto → Prop
  | [], acc, st => inv st ∧ Kc acc st
  | x :: r, acc, st => inv st ∧ g x ε st fun ε1 s1 => tt ε1 s1 fun b s2 => if b = true then te ε1 s2 fun y s3 => qComp inv g tt te ε Kc r (acc ++ [y]) s3 else qComp inv g tt te ε Kc r acc s2
theorem qComp_inv {inv : Sto → Prop} {g : TDg} {tt : TDt} {te : TD} {ε : Env} {Kc : List DV → Sto → Prop} {l acc : List DV} {st : Sto} (h : qComp inv g tt te ε Kc l acc st) : inv st := by
  cases l with
  | nil => exact h.1
  | cons x r => exact h.1
def qLc (m : Bool) (ti : TDi) (g : TDg) (tt : TDt) (te : TD) (vs : List Nat) : TD := fun ε st Q => ti ε st fun items inv s1 => items.length ≤ sizeLine ∧ qComp inv g tt te (wipeD ε vs) (fun acc s2 => newL m acc s2 Q) items [] s1
structure DTs (X : Cx) (ifs : List Expr) (t : TDt) : Prop where
  ex : ∃ te, PTs X ifs te ∧ Sg relT X.K te t
def qYes : TDt := fun _ st Q => Q true st
theorem dts_nil : DTs X [] qYes := ⟨⟨_, pts_nil, fun F σ H ε st Qd Q R E h kk => kk.at R rfl h⟩⟩
theorem dts_one {e : Expr} {t : TDt} (h : DT X e t) : DTs X [e] t := let ⟨te, p, a⟩ := h.ex; ⟨⟨te, pts_one p, a⟩⟩
theorem Cok.blk (c : Cok P w K mg base X N sc fs k) {scope : Scope} (hk : scope.kind = .function) (s : Shared) (H : Hp) (C : Addr) (cl : List (Str × Addr)) (fp : List Addr) :
    Cok P w K mg base (X.blk s H scope (compEnvC scope cl C X.env) fp) N (relS scope sc) scope k where
  hP := c.hP
  hw := c.hw
  hK := c.hK
  hmg := c.hmg
  hb := c.hb
  hN := c.hN
  nd := c.nd
  kind := hk
  hs := by
    show relabel scope X.env = relS scope sc
    have e := c.hs
    unfold relabel relS PySem.Env.kindOf
    rw [e]
  calm := c.calm
  fn := fun x h => by
    show (scope.names.lookup x == some NameKind.cell) = true
    rw [h]
    rfl
  room := c.room
  pass := fun _ _ h => h.elim
theorem comp_sim {wi : TI} {g : TG} {tt : TT} {te : TE} {ti : TDi} {gd : TDg} {ttd : TDt} {ted : TD} {m : Bool} {vs ws : List Nat} (hv : ∀ i ∈ ws, i ∈ vs)
    (a0 : ∀ F σ H ε st Qd R', Rs K F H st → RE K F σ ε → ti ε st Qd → (∀ F' J H' items inv st', Step F H st F' H' st' → Rs K F' H' st' → Src K F' J items inv → Qd items inv st' → R' J H') → wi σ H R')
    (a1 : ∀ F σ H ε st v x Qd Q, Rs K F H st → RE K F σ ε → RV K F v x → gd x ε st Qd → (∀ F' σ' H' ε' st', Step F H st F' H' st' → Rs K F' H' st' → RE K F' σ' ε' → (∀ vs : List Nat, (∀ i ∈ ws, i ∈ vs) → wipe σ' vs = wipe σ vs) → Qd ε' st' → Q σ' H') → g v σ H Q)
    (a2 : Sg relT K tt ttd) (a3 : Sg (RV K) K te ted) : Sg (RV K) K (tLc wi g tt te vs) (qLc m ti gd ttd ted vs) := by
  intro F σ H ε st Qd Q R E h kk
  refine a0 F σ H ε st _ _ R E h fun F1 J H1 items inv st1 s1 R1 src q => ?_
  intro D hD
  obtain ⟨hsz, q⟩ := q
  obtain ⟨f0, d0⟩ := R1.free hD
  obtain ⟨R1', s1'⟩ := R1.hide (o := .lst []) hD
  refine ⟨fun i mm H' => i ≤ items.length ∧ mm = items.length - i ∧ ∃ F' st' acc accD, Step F1 H1 st1 F' H' st' ∧ Rs K F' H' st' ∧ H' D = some (.lst acc) ∧ F' D = none ∧ st' D = none ∧ RVs K F' acc accD ∧ acc.length ≤ i ∧ qComp inv gd ttd ted (wipeD ε vs) (fun acc s2 => newL m acc s2 Qd) (items.drop i) accD st',
    ⟨items.length, Nat.zero_le _, by omega, F1, st1, [], [], s1', R1', upd_same, f0, d0, .nil, Nat.le_refl _, by rw [List.drop_zero]; exact q⟩, ?_⟩
  rintro i mm H2 ⟨hi, rfl, F2, st2, acc, accD, s2, R2, hD2, f2, d2, r2, hl, q2⟩
  have iv := qComp_inv q2
  obtain ⟨src1, src2⟩ := src F2 H2 st2 s2.ex R2 iv
  by_cases hlt : i < items.length
  · have ed : items.drop i = items[i] :: items.drop (i + 1) := List.drop_eq_getElem_cons hlt
    rw [ed] at q2
    obtain ⟨go, yl⟩ := src1 i items[i] (List.getElem?_eq_getElem hlt)
    refine .inr ⟨go, fun H' => ∃ F' st' acc accD, Step F1 H1 st1 F' H' st' ∧ Rs K F' H' st' ∧ H' D = some (.lst acc) ∧ F' D = none ∧ st' D = none ∧ RVs K F' acc accD ∧ acc.length ≤ i + 1 ∧ qComp inv gd ttd ted (wipeD ε vs) (fun acc s2 => newL m acc s2 Qd) (items.drop (i + 1)) accD st',
      fun H' q' => ⟨items.length - (i + 1), by omega, hlt, rfl, q'⟩, fun v H3 y => ?_⟩
    obtain ⟨F3, s3, R3, r3⟩ := yl v H3 y
    have E3 : RE K F3 (wipe σ vs) (wipeD ε vs) := (E.mono (s1.trans (s2.trans s3)).ex).wipe vs
    refine a1 F3 _ H3 _ st2 v items[i] _ _ R3 E3 r3 q2.2 fun F4 σ4 H4 ε4 st4 s4 R4 E4 w4 q4 => ?_
    refine ⟨(w4 vs hv).trans (wipe_idem σ vs), ?_⟩
    refine a2 F4 σ4 H4 ε4 st4 _ _ R4 E4 q4 fun F5 b H5 b' st5 s5 R5 rb q5 => ?_
    cases rb
    have s25 := s2.trans (s3.trans (s4.trans s5))
    obtain ⟨hD5, f5, d5⟩ := (s3.trans (s4.trans s5)).hid hD2 f2 d2
    cases b with
    | true =>
      refine a3 F5 σ4 H5 ε4 st5 _ _ R5 (E4.mono s5.ex) q5 fun F6 y H6 y' st6 s6 R6 ry q6 => ?_
      obtain ⟨hD6, f6, d6⟩ := s6.hid hD5 f5 d5
      refine ⟨acc, hD6, by omega, F6, st6, acc ++ [y], accD ++ [y'], (s25.trans s6).hput hD, R6.hput f6 d6, upd_same, f6, d6, (r2.mono ((s3.trans (s4.trans s5)).trans s6).ex).append (.cons ry .nil), by rw [List.length_append]; simp only [List.length_singleton]; omega, q6⟩
    | false => exact ⟨F5, st5, acc, accD, s25, R5, hD5, f5, d5, r2.mono (s3.trans (s4.trans s5)).ex, by omega, q5⟩
  · have e : i = items.length := by omega
    subst e
    rw [List.drop_length] at q2
    exact .inl ⟨src2, seen_lst s2 hD R2 hD2 f2 d2 r2 q2.2 (kk.step s1)⟩
where
  wipe_idem (σ : L2.St) (vs : List Nat) : wipe (wipe σ vs) vs = wipe σ vs := by
    have h : ∀ us : List Nat, (∀ i ∈ us, i ∈ vs) → wipe (wipe σ us) vs = wipe σ vs := by
      intro us
      induction us with
      | nil => intro _; rfl
      | cons j us ih =>
        intro hu
        show wipe ((wipe σ us).set j none) vs = _
        rw [wipe_set (hu j List.mem_cons_self)]
        exact ih fun i hi => hu i (List.mem_cons_of_mem _ hi)
    exact h vs fun _ z => z
end
end DL
end
section
set_option Elab.async false
set_option linter.all false
set_option maxRecDepth 100000
set_option maxHeartbeats 4000000
namespace DLM
open PySem PySem.Spec
open AutoSeq1 (wpAny_loadPart')
theorem meets_enumerate_newT (l : Addr) (items : Array Value) (n : Nat) (dct : Option Addr) (sl : Array (Option Value)) :
    Meets (Builtin.«enumerate.__new__» ⟨[.type "enumerate", .ref l], []⟩) (fun _ R s => s.heap.get? l = some { cls := .type "tuple", dict := dct, data := .seq items n, slots := sl } ∧
      R (.ok (.ret (.ref (s.heap.push { cls := .type "tuple_iterator", data := .fields #[.ref l, .int 0 0] }).objs.size)))
        { s with heap := (s.heap.push { cls := .type "tuple_iterator", data := .fields #[.ref l, .int 0 0] }).push { cls := .type "enumerate", data := .fields #[.none, .bool false, .ref s.heap.objs.size, rawInt 0, .none, .none] } }) :=
  .of_wp fun prog w A R s h => by
    obtain ⟨hp, g, d, tk, os⟩ := s; obtain ⟨hl, h⟩ := h
    have hsub := sub_enumerate
    have hL : Heap.IsTuple (Shared.heap ⟨hp, g, d, tk, os⟩) l items := ⟨_, hl, rfl, n, rfl⟩
    wp_walk using wpAny_loadPart' hl
    refine wpAny_stack_any fun st => wpAny_pure ?_
    split
    · rename_i c _ _ _ _ _
      cases (c == Value.type "enumerate")
      · wp_walk using wpAny_loadPart' hl, wpAny_pyIter_tuple hL
        exact ⟨_, rfl, h⟩
      · wp_walk using wpAny_loadPart' hl, wpAny_pyIter_tuple hL
        exact ⟨_, rfl, h⟩
    · wp_walk using wpAny_loadPart' hl, wpAny_pyIter_tuple hL
      exact ⟨_, rfl, h⟩
section
variable {prog : Program} {w : World} {A : Around} {E : Value → Shared → Prop} {s : Shared}
theorem call_enumerate_tuple {l : Addr} {items : Array Value} {Q : Value → Shared → Prop} (hL : s.heap.IsTuple l items)
    (h : ∀ h', IsEnum h' (s.heap.objs.size + 1) s.heap.objs.size 0 .none → h'.IsTupleIter s.heap.objs.size l 0 → h'.objs.size = s.heap.objs.size + 2 →
      (∀ b o, s.heap.get? b = some o → h'.get? b = some o) → Q (.ref (s.heap.objs.size + 1)) { s with heap := h' }) :
    wpAny (model prog w) A (call (.type "enumerate") [.ref l]) Q E s := by
  obtain ⟨⟨c, dct, dt, sl⟩, hl, hc, n, hd⟩ := hL
  replace hc : c = .type "tuple" := hc
  replace hd : dt = .seq items n := hd
  subst hc hd
  refine callType_new F.called_enumerate (by decide) (F.typeCall_enumerate_1 _) (F.newCall_enumerate_1 _) (fun obj => F.args_object_init_2 obj _) F.entry_enumerate_new
    (meets_enumerate_newT l items n dct sl) ⟨hl, ?_⟩
  have hz : (s.heap.push { cls := .type "tuple_iterator", data := .fields #[.ref l, .int 0 0] }).objs.size = s.heap.objs.size + 1 := Heap.size_push ..
  show _ ∧ _
  rw [hz]
  have he : IsEnum ((s.heap.push { cls := .type "tuple_iterator", data := .fields #[.ref l, .int 0 0] }).push
      { cls := .type "enumerate", data := .fields #[.none, .bool false, .ref s.heap.objs.size, rawInt 0, .none, .none] }) (s.heap.objs.size + 1) s.heap.objs.size 0 .none := by
    have := Heap.get?_push_size (s.heap.push { cls := .type "tuple_iterator", data := .fields #[.ref l, .int 0 0] })
      (o := { cls := .type "enumerate", data := .fields #[.none, .bool false, .ref s.heap.objs.size, rawInt 0, .none, .none] }) rfl
    rw [hz] at this; exact this
  refine ⟨⟨_, he, rfl⟩, h _ he ⟨_, Heap.get?_push_of_some _ (Heap.get?_push_size _ rfl), rfl, rfl⟩ (by rw [Heap.size_push, hz]) fun b o x => Heap.get?_push_of_some _ (Heap.get?_push_of_some _ x)⟩
end
end DLM
namespace L2
open PySem PySem.Spec PyProof.Rows
def IteT (K : PySem.W.Frag) (a : Addr) : It :=
  ⟨fun i H => ∃ (xs : List V) (x : V), SqT K H a xs ∧ xs[i]? = some x, fun i H v H' => ∃ T x, v = .ref T ∧ H T = none ∧ H' = upd H T (.tup [.int (i : Nat), x]) ∧ ∀ xs, SqT K H a xs → xs[i]? = some x, fun i H => ∃ xs : List V, SqT K H a xs ∧ xs.length ≤ i⟩
theorem turn_enumT {P : Program} {w : World} {K : PySem.W.Frag} {elts : List Expr} {kk : Nat} {tpos : Pos} (a e it : Addr) :
    Turn P w K (.Tuple elts kk tpos) (IteT K a) [e, it] e (fun i h => (∃ old, IsEnum h e it ((i : Nat) : Int) old) ∧ h.IsTupleIter it a i ∧ e ≠ it) where
  mem := by simp
  obj := fun i h st b hb => by
    obtain ⟨⟨old, he⟩, ⟨o, ho, hc, hd⟩, _⟩ := st
    have e' : b = e ∨ b = it := by simpa using hb
    rcases e' with z | z
    · rw [z]; exact ⟨_, he, fun v q => nomatch q⟩
    · rw [z]; exact ⟨o, ho, fun v q => by rw [hd] at q; cases q⟩
  keep := fun i h h' st k => let ⟨⟨old, he⟩, hi, hne⟩ := st; ⟨⟨old, k e (by simp) _ he⟩, hi.at fun o q => k it (by simp) o q, hne⟩
  item := by
    intro X hP hw hK hc i pins s σ H E I hf st hg
    subst hP hw hK
    obtain ⟨⟨old, he⟩, hit, hne⟩ := st
    obtain ⟨xs, x, hq, hx⟩ := hg
    obtain ⟨its, rv, p, hz⟩ := I.tuple hq
    obtain ⟨u, hu, ru⟩ := rv.get hx
    have hel : e < s.heap.objs.size := Heap.lt_size he
    have hil : it < s.heap.objs.size := by obtain ⟨_, q, _⟩ := hit; exact Heap.lt_size q
    have hi : i < its.toArray.size := by
      have := (List.getElem?_eq_some_iff.mp hu).1
      simpa using this
    have hai : a ≠ it := by
      obtain ⟨o1, q1, c1, _⟩ := id p
      obtain ⟨o2, q2, c2, _⟩ := id hit
      intro z
      rw [z, q2] at q1
      cases q1
      rw [c1] at c2
      exact absurd (Value.type.inj c2) (by decide)
    have hae : e ≠ a := by
      obtain ⟨o1, q1, c1, _⟩ := id p
      intro z
      rw [← z, he] at q1
      cases q1
      exact absurd (Value.type.inj c1) (by decide)
    have D := PySem.Draws.tuple (prog := X.prog) (w := X.w) (A := X.A.in1) (I.ok.hd hc) it a hai its.toArray
    refine wpAny_pyNext_enum_itemD D he ⟨hit, p⟩ hi hne (by simp [hne, hae]) fun y h' tk hP ho hst hT hsz hk => ?_
    have ey : y = u := by
      rw [List.getElem?_toArray, hu] at hP
      exact (Option.some.inj hP).symm
    subst ey
    refine ⟨_, rfl, wpAny_letOwnedTupleGo_enum (s := { s with heap := h', toks := tk + 1 }) ho fun h'' he' sb => ?_⟩
    have hT2 : h''.get? s.heap.objs.size = some { cls := .type "tuple", data := .seq #[.int i tk, y] } := (sb.2 _ (Nat.ne_of_gt hel)).trans hT
    have new : ObjOk X.prog X.w (upd H s.heap.objs.size (.tup [.int (i : Nat), x])) h'' s.heap.objs.size (.tup [.int (i : Nat), x]) :=
      ⟨by show 2 ≤ sizeLine; decide, [.int i tk, y], .cons ⟨_, rfl⟩ (.cons ru .nil), ⟨_, hT2, rfl, _, rfl⟩⟩
    have I1 : Inv X pins σ (upd H s.heap.objs.size (.tup [.int (i : Nat), x])) { s with heap := h'', toks := tk + 1 } :=
      I.turnedNew (ch := [e, it]) (fun b ob hb q => (sb.2 b (fun z => hb (by simp [z]))).trans (hk b ob (fun z => hb (by simp [z])) (fun z => hb (by simp [z])) q)) hf (Nat.le_refl _) new
    refine ⟨.ref s.heap.objs.size, _, I1, rfl, ⟨_, x, rfl, I.hok.fresh (Nat.le_refl _), rfl, fun ys hy => by rw [I.tuple_inj hy hq]; exact hx⟩, ⟨⟨y, ?_⟩, hst.1.at fun o q => (sb.2 it (Ne.symm hne)).trans q, hne⟩, fun b hb => ?_⟩
    · have e1 : ((i + 1 : Nat) : Int) = (i : Int) + 1 := by omega
      rw [e1]; exact he'
    · have hb' : b < s.heap.objs.size := by
        have e' : b = e ∨ b = it := by simpa using hb
        rcases e' with z | z
        · rw [z]; exact hel
        · rw [z]; exact hil
      rw [upd_ne (Nat.ne_of_lt hb')]
      exact (hf b hb).1
  done := by
    intro X hP hw hK hc i pins s σ H E I hf st hg
    subst hP hw hK
    obtain ⟨⟨old, he⟩, hit, hne⟩ := st
    obtain ⟨xs, hq, hx⟩ := hg
    obtain ⟨its, rv, p, hz⟩ := I.tuple hq
    obtain ⟨f0, f1, f2, f3, f4, f5⟩ := hf it (by simp)
    have hl := rv.length
    have hT : s.TypeIs (.ref e) "enumerate" := ⟨_, he, rfl⟩
    unfold pyNext
    refine wpAny_bind (wpAny_attempt (wpAny_callSpecial?_slot (name := Str.ofString "__next__") hT F.slot_enumerate_next
      (wpAny_call_entry F.slot_enumerate_next hT F.entry_enumerate_next ?_ (F.args_enumerate_next_1 _))))
    show wpAny _ _ (field (.ref e) 2 >>= _) _ _ _
    refine wpAny_bind (wpAny_field he rfl (x := .ref it) rfl ?_)
    refine wpAny_bind (wpAny_nextOf_tuple_end (I.ok.hd hc) hit p (by simp; omega) fun h' y he' hx' => ?_)
    obtain ⟨o, ho, hc⟩ := hx'
    refine wpAny_bind (wpAny_isInstance (T := "StopIteration") (b := true) ⟨o, ho, hc⟩ isSubtype_stop ?_)
    exact wpAny_pure ⟨rfl, I.turned (t' := s.toks) (fun b o hb q => he' b o hb q) f0 f1 f3 f4 f5⟩
  self := fun A i s Q E st h => let ⟨⟨_, he⟩, _⟩ := st; wpAny_pyIter_enum he h
def iEnumA (K : PySem.W.Frag) (ta : TA) : TI := fun σ H R => ta σ H fun vs H1 => ∃ a xs, vs = [.ref a] ∧ ((SqL K H1 a xs ∧ R (Ite K a) H1) ∨ (SqT K H1 a xs ∧ R (IteT K a) H1))
theorem pi_enumA {X : Cx} {e : Expr} {ta : TA} {p pos tpos : Pos} {elts : List Expr} {kk : Nat} (hg : Gl X "enumerate") (hm : X.mg "enumerate" = none) (ha : PA X [e] ta) (hs : starEach [e] X.env = [(false, eval e X.env)] := by rfl) :
    PI X (.Tuple elts kk tpos) (.Call (.Name "enumerate" p) [e] [] pos) (iEnumA X.K ta) := by
  refine ⟨fun pins s σ H R I h => ?_⟩
  refine Call_ (ld_blt I hg hm boot_enumerate (PyProof.Rows.callWith_type1 (thn (ha.run pos pins s σ H _ I h) fun us s1 ⟨vs, H1, I1, r1, q1⟩ => ?_) hs rfl))
  obtain ⟨a, xs, ex, q⟩ := q1
  subst ex
  cases r1 with
  | cons r rr =>
    cases rr
    cases r
    have fresh2 : ∀ b, b ∈ [s1.heap.objs.size + 1, s1.heap.objs.size] → FpOk X pins H1 b := fun b hb => by
      have e' : b = s1.heap.objs.size + 1 ∨ b = s1.heap.objs.size := by simpa using hb
      have hle : s1.heap.objs.size ≤ b := by
        rcases e' with z | z
        · rw [z]; exact Nat.le_add_right _ _
        · rw [z]; exact Nat.le_refl _
      exact I1.fpOk hle (I1.hok.fresh hle)
    rcases q with ⟨hq, q⟩ | ⟨hq, q⟩
    · obtain ⟨its, rv, p', hz⟩ := I1.list hq
      refine call_enumerate_list p'.isList fun h' he hit hsz hk => wpAny_pyIter_enum he ?_
      have I2 : Inv X pins σ H1 { s1 with heap := h' } := I1.kept (t' := s1.toks) hk
      exact ⟨s1.heap.objs.size + 1, [s1.heap.objs.size + 1, s1.heap.objs.size], _, _, H1, rfl, I2, turn_enum a (s1.heap.objs.size + 1) s1.heap.objs.size, ⟨⟨.none, he⟩, hit, Nat.succ_ne_self _⟩, fresh2, q⟩
    · obtain ⟨its, rv, p', hz⟩ := I1.tuple hq
      refine DLM.call_enumerate_tuple (show s1.heap.IsTuple a its.toArray from p') fun h' he hit hsz hk => wpAny_pyIter_enum he ?_
      have I2 : Inv X pins σ H1 { s1 with heap := h' } := I1.kept (t' := s1.toks) hk
      exact ⟨s1.heap.objs.size + 1, [s1.heap.objs.size + 1, s1.heap.objs.size], _, _, H1, rfl, I2, turn_enumT a (s1.heap.objs.size + 1) s1.heap.objs.size, ⟨⟨.none, he⟩, hit, Nat.succ_ne_self _⟩, fresh2, q⟩
def iSeq (K : PySem.W.Frag) (tl : TE) : TI := fun σ H R => tl σ H fun x H1 => ∃ a xs, x = .ref a ∧ ((SqL K H1 a xs ∧ R (Itl K a) H1) ∨ (SqT K H1 a xs ∧ R (Itt K a) H1))
theorem pi_seq {X : Cx} {tg l : Expr} {tl : TE} (hl : PE X l tl) : PI X tg l (iSeq X.K tl) := by
  refine ⟨fun pins s σ H R I h => ?_⟩
  refine thn (hl.run pins s σ H _ I h) fun v s1 ⟨x, H1, I1, r1, q1⟩ => ?_
  obtain ⟨a, xs, e, q⟩ := q1
  subst e
  cases r1
  have fresh1 : ∀ b, b ∈ [s1.heap.objs.size] → FpOk X pins H1 b := fun b hb => by
    have e : b = s1.heap.objs.size := by simpa using hb
    subst e
    exact I1.fpOk (Nat.le_refl _) (I1.hok.fresh (Nat.le_refl _))
  rcases q with ⟨hq, q⟩ | ⟨hq, q⟩
  · obtain ⟨its, rv, p, hz⟩ := I1.list hq
    refine wpAny_pyIter_list p.isList ?_
    exact ⟨s1.heap.objs.size, [s1.heap.objs.size], _, _, H1, rfl, I1.kept (t' := s1.toks) fun b o e => Heap.get?_push_of_some _ e, turn_list a _, ⟨_, Heap.get?_push_size _ rfl, rfl, rfl⟩, fresh1, q⟩
  · obtain ⟨its, rv, p, hz⟩ := I1.tuple hq
    refine wpAny_pyIter_tuple (show s1.heap.IsTuple a its.toArray from p) ?_
    exact ⟨s1.heap.objs.size, [s1.heap.objs.size], _, _, H1, rfl, I1.kept (t' := s1.toks) fun b o e => Heap.get?_push_of_some _ e, turn_tuple a _, ⟨_, Heap.get?_push_size _ rfl, rfl, rfl⟩, fresh1, q⟩
end L2
end
section
set_option Elab.async false
set_option linter.all false
set_option maxRecDepth 100000
set_option maxHeartbeats 4000000
namespace DL
open PySem L2 PyProof.Rows
section
variable {P : Program} {w : World} {K : PySem.W.Frag} {mg : Str → Option Value} {base : Heap} {X : Cx} {N : List Str} {sc fs : Scope} {k : Nat}
theorem gl_of {x : Str} (c : Cok P w K mg base X N sc fs k) (h : glB sc x = true) : Gl X x ∧ x ≠ "__name__" ∧ (x == ("__debug__" : Str)) = false := by
  unfold glB at h
  simp only [Bool.and_eq_true, Bool.not_eq_true'] at h
  obtain ⟨⟨h1, h2⟩, h3⟩ := h
  refine ⟨?_, fun e => ?_, h2⟩
  · show X.env.kindOf x = some .globalImplicit
    rw [kindOf_S c]
    show sc.names.lookup x = _
    split at h1
    · assumption
    · cases h1
  · subst e
    exact absurd h3 (by decide)
def lsrc (st : Sto) : DV → Option (List DV × (Sto → Prop))
  | .d (.list xs) => some (xs.map .d, fun _ => True)
  | .r a => match st a with | some (.lst xs) => some (xs, fun s => s a = some (.lst xs)) | _ => none
  | _ => none
theorem lsrc_at {F0 H0 : Hp} {st0 : Sto} {v : V} {x : DV} {xs : List DV} {inv : Sto → Prop} (R0 : Rs K F0 H0 st0) (r : RV K F0 v x) (h : lsrc st0 x = some (xs, inv)) :
    ∃ a, v = .ref a ∧ (∃ vs, SqL K H0 a vs) ∧ inv st0 ∧ ∀ F H st, (∀ a o, F0 a = some o → F a = some o) → Rs K F H st → inv st → ∃ vs, SqL K H a vs ∧ RVs K F vs xs := by
  cases x with
  | d z =>
    cases z with
    | list ds =>
      cases h
      cases r with
      | d r =>
        cases r with
        | lst q s => exact ⟨_, rfl, ⟨_, SqL.mono (Rs.ex F0 H0 st0 R0) q⟩, True.intro, fun F H st e R _ => ⟨_, SqL.mono (fun a o z => Rs.ex F H st R a o (e a o z)) q, (s.mono e).rvs⟩⟩
    | _ => cases h
  | t ys => cases h
  | r a =>
    cases r
    unfold lsrc at h
    simp only at h
    cases e : st0 a with
    | none => rw [e] at h; cases h
    | some m =>
      rw [e] at h
      cases m with
      | lst ys =>
        cases h
        obtain ⟨vs, q, s⟩ := R0.ok a _ e
        refine ⟨a, rfl, ⟨vs, SqL.of q⟩, e, fun F H st _ R iv => ?_⟩
        obtain ⟨vs, q, s⟩ := R.ok a _ iv
        exact ⟨vs, SqL.of q, s⟩
      | dK _ => cases h
      | dT _ => cases h
      | ins _ _ => cases h
      | lk _ _ _ => cases h
theorem tsrc_at {F0 H0 : Hp} {st0 : Sto} {v : V} {x : DV} {xs : List DV} (R0 : Rs K F0 H0 st0) (r : RV K F0 v x) (h : titems x = some xs) :
    ∃ a, v = .ref a ∧ (∃ vs, SqT K H0 a vs) ∧ ∀ F H st, (∀ a o, F0 a = some o → F a = some o) → Rs K F H st → ∃ vs, SqT K H a vs ∧ RVs K F vs xs := by
  obtain ⟨a, vs, e, q, s⟩ := titems_rv r h
  exact ⟨a, e, ⟨vs, SqT.of (R0.sub _ _ q).1⟩, fun F H st e R => ⟨vs, SqT.of (R.sub _ _ (e _ _ q)).1, s.mono e⟩⟩
def seqSrc (st : Sto) (x : DV) : Option (List DV × (Sto → Prop)) := match titems x with | some xs => some (xs, fun _ => True) | none => lsrc st x
def qiSeq (te : TD) : TDi := fun ε st Q => te ε st fun x s1 => match seqSrc s1 x with | some (its, inv) => Q its inv s1 | none => False
theorem di_seq {tg e : Expr} {te : TD} (h : DE X e te) : DI X tg e (qiSeq te) := by
  obtain ⟨t1, p, a⟩ := h
  refine ⟨⟨_, pi_seq p, fun F σ H ε st Qd R' R E h kk => ?_⟩⟩
  refine a F σ H ε st _ _ R E h fun F1 v H1 x s1 t1 R1 r q => ?_
  split at q
  rotate_left
  · exact q.elim
  rename_i its inv es
  unfold seqSrc at es
  split at es
  · rename_i xs ex
    cases es
    obtain ⟨a, rfl, ⟨vs, hv⟩, hs⟩ := tsrc_at R1 r ex
    refine ⟨a, vs, rfl, .inr ⟨hv, kk F1 _ H1 its _ s1 t1 R1 (fun F H st e R iv => ?_) q⟩⟩
    obtain ⟨vs, hv, s⟩ := hs F H st e R
    refine ⟨fun i y hy => ?_, vs, hv, Nat.le_of_eq s.length⟩
    obtain ⟨u, hu, ru⟩ := s.get' hy
    refine ⟨⟨vs, u, hv, hu⟩, fun v H' ⟨e1, e2⟩ => ?_⟩
    subst e1
    have := e2 vs hv
    rw [hu] at this
    cases this
    exact ⟨F, Step.refl _ _ _, R, ru⟩
  · obtain ⟨a, rfl, ⟨vs, hv⟩, iv0, hs⟩ := lsrc_at R1 r es
    refine ⟨a, vs, rfl, .inl ⟨hv, kk F1 _ H1 its _ s1 t1 R1 (fun F H st e R iv => ?_) q⟩⟩
    obtain ⟨vs, hv, s⟩ := hs F H st e R iv
    refine ⟨fun i y hy => ?_, vs, hv, Nat.le_of_eq s.length⟩
    obtain ⟨u, hu, ru⟩ := s.get' hy
    refine ⟨⟨vs, u, hv, hu⟩, fun v H' ⟨e1, e2⟩ => ?_⟩
    subst e1
    have := e2 vs hv
    rw [hu] at this
    cases this
    exact ⟨F, Step.refl _ _ _, R, ru⟩
def rngD (lo : Int) (n : Nat) : List DV := (List.range n).map fun (i : Nat) => .d (.int (lo + (i : Int)))
theorem rng_src {F0 : Hp} (lo : Int) (n : Nat) : Src K F0 (Itr lo n) (rngD lo n) (fun _ => True) := fun F H st e R iv => by
  unfold rngD
  refine ⟨fun i x hx => ?_, by simp [Itr]⟩
  rw [List.getElem?_map] at hx
  by_cases hlt : i < n
  · rw [List.getElem?_range hlt] at hx
    cases hx
    refine ⟨hlt, fun v H' ⟨e1, e2⟩ => ?_⟩
    subst e1 e2
    exact ⟨F, Step.refl _ _ _, R, .d (.int _)⟩
  · rw [List.getElem?_eq_none (by rw [List.length_range]; omega)] at hx
    cases hx
def qiRng1 (ta : TDa) : TDi := fun ε st Q => ta ε st fun vs s1 => match vs with
  | [.d (.int j)] => -(2 ^ 62) ≤ j ∧ j < 2 ^ 62 ∧ Q (rngD 0 j.toNat) (fun _ => True) s1
  | _ => False
def qiRng2 (ta : TDa) : TDi := fun ε st Q => ta ε st fun vs s1 => match vs with
  | [.d (.int i), .d (.int j)] => (-(2 ^ 62) ≤ i ∧ i < 2 ^ 62 ∧ -(2 ^ 62) ≤ j ∧ j < 2 ^ 62) ∧ Q (rngD i (j - i).toNat) (fun _ => True) s1
  | _ => False
theorem di_rng1 {tg a : Expr} {ta : TDa} {p pos : Pos} (c : Cok P w K mg base X N sc fs k) (hg : glB sc "range" = true) (hm : mg "range" = none) (h : DA X [a] ta) (hs : starEach [a] X.env = [(false, eval a X.env)] := by rfl) : DI X tg (.Call (.Name "range" p) [a] [] pos) (qiRng1 ta) := by
  obtain ⟨t1, p1, a1⟩ := h
  refine ⟨⟨_, pi_range1 (gl_of c hg).1 (by rw [c.hmg]; exact hm) p1 hs, fun F σ H ε st Qd R' R E h kk => ?_⟩⟩
  refine a1 F σ H ε st _ _ R E h fun F1 vs H1 xs s1 t1 R1 r q => ?_
  split at q
  · cases r with
    | cons r rr =>
      cases rr
      cases rv_int r
      exact ⟨_, rfl, q.1, q.2.1, kk F1 _ H1 _ _ s1 t1 R1 (rng_src 0 _) q.2.2⟩
  · exact q.elim
def zipD (xs ys : List DV) : List DV := List.zipWith (fun x y => mkT [x, y]) xs ys
theorem pair_src {F H : Hp} {st : Sto} {T : Addr} {u1 u2 : V} {x y : DV} (R : Rs K F H st) (hT : H T = none) (r1 : RV K F u1 x) (r2 : RV K F u2 y) :
    ∃ F', Step F H st F' (upd H T (.tup [u1, u2])) st ∧ Rs K F' (upd H T (.tup [u1, u2])) st ∧ RV K F' (.ref T) (mkT [x, y]) := by
  obtain ⟨R', t⟩ := R.frz (o := .tup [u1, u2]) hT
  exact ⟨_, t, R', mkT_rv upd_same (.cons (r1.mono t.ex) (.cons (r2.mono t.ex) .nil))⟩
def qiZip (ta : TDa) : TDi := fun ε st Q => ta ε st fun vs s1 => match vs with
  | [x, y] => match titems x, titems y with
    | some xs, some ys => Q (zipD xs ys) (fun _ => True) s1
    | _, _ => match lsrc s1 x, lsrc s1 y with
      | some (xs, inv1), some (ys, inv2) => Q (zipD xs ys) (fun s => inv1 s ∧ inv2 s) s1
      | _, _ => False
  | _ => False
theorem di_zip {e e2 : Expr} {ta : TDa} {p pos tpos : Pos} {elts : List Expr} {kk' : Nat} (c : Cok P w K mg base X N sc fs k) (hg : glB sc "zip" = true) (hm : mg "zip" = none) (h : DA X [e, e2] ta)
    (hs : starEach [e, e2] X.env = (false, eval e X.env) :: starEach [e2] X.env := by rfl) (hpl : (backTo pos (starEach [e2] X.env)).any (·.1) = false := by rfl) : DI X (.Tuple elts kk' tpos) (.Call (.Name "zip" p) [e, e2] [] pos) (qiZip ta) := by
  obtain ⟨t1, p1, a1⟩ := h
  refine ⟨⟨_, RZ.pi_zipA (gl_of c hg).1 (by rw [c.hmg]; exact hm) p1 hs hpl, fun F σ H ε st Qd R' R E h kk => ?_⟩⟩
  refine a1 F σ H ε st _ _ R E h fun F1 vs H1 xs s1 t1 R1 r q => ?_
  split at q
  · cases r with
    | cons r rr =>
      cases rr with
      | cons r2 rr =>
        cases rr
        split at q
        · rename_i xs ys ex ey
          obtain ⟨a, rfl, ⟨vs, hv⟩, h1⟩ := tsrc_at R1 r ex
          obtain ⟨b, rfl, ⟨ws, hw⟩, h2⟩ := tsrc_at R1 r2 ey
          refine ⟨a, b, vs, ws, rfl, .inr ⟨hv, hw, kk F1 _ H1 _ _ s1 t1 R1 (fun F H st e R iv => ?_) q⟩⟩
          obtain ⟨vs, hv, s⟩ := h1 F H st e R
          obtain ⟨ws, hw, s2⟩ := h2 F H st e R
          refine ⟨fun i z hz => ?_, vs, ws, hv, hw, ?_⟩
          · unfold zipD at hz
            rw [List.getElem?_zipWith] at hz
            cases hx : xs[i]? with
            | none => simp [hx] at hz
            | some x =>
              cases hy : ys[i]? with
              | none => simp [hx, hy] at hz
              | some y =>
                simp [hx, hy] at hz
                subst hz
                obtain ⟨u, hu, ru⟩ := s.get' hx
                obtain ⟨u2, hu2, ru2⟩ := s2.get' hy
                refine ⟨⟨vs, ws, u, u2, hv, hw, hu, hu2⟩, fun v H' ⟨T, x', y', e1, hT, e2, h3, h4⟩ => ?_⟩
                subst e1 e2
                have q1 := h3 vs hv
                have q2 := h4 ws hw
                rw [hu] at q1
                rw [hu2] at q2
                cases q1
                cases q2
                exact pair_src R hT ru ru2
          · have l1 := s.length
            have l2 := s2.length
            unfold zipD
            rw [List.length_zipWith]
            omega
        · split at q
          rotate_left
          · exact q.elim
          rename_i xs inv1 ys inv2 ex ey
          obtain ⟨a, rfl, ⟨vs, hv⟩, i1, h1⟩ := lsrc_at R1 r ex
          obtain ⟨b, rfl, ⟨ws, hw⟩, i2, h2⟩ := lsrc_at R1 r2 ey
          refine ⟨a, b, vs, ws, rfl, .inl ⟨hv, hw, kk F1 _ H1 _ _ s1 t1 R1 (fun F H st e R iv => ?_) q⟩⟩
          obtain ⟨vs, hv, s⟩ := h1 F H st e R iv.1
          obtain ⟨ws, hw, s2⟩ := h2 F H st e R iv.2
          refine ⟨fun i z hz => ?_, vs, ws, hv, hw, ?_⟩
          · unfold zipD at hz
            rw [List.getElem?_zipWith] at hz
            cases hx : xs[i]? with
            | none => simp [hx] at hz
            | some x =>
              cases hy : ys[i]? with
              | none => simp [hx, hy] at hz
              | some y =>
                simp [hx, hy] at hz
                subst hz
                obtain ⟨u, hu, ru⟩ := s.get' hx
                obtain ⟨u2, hu2, ru2⟩ := s2.get' hy
                refine ⟨⟨vs, ws, u, u2, hv, hw, hu, hu2⟩, fun v H' ⟨T, x', y', e1, hT, e2, h3, h4⟩ => ?_⟩
                subst e1 e2
                have q1 := h3 vs hv
                have q2 := h4 ws hw
                rw [hu] at q1
                rw [hu2] at q2
                cases q1
                cases q2
                exact pair_src R hT ru ru2
          · have l1 := s.length
            have l2 := s2.length
            unfold zipD
            rw [List.length_zipWith]
            omega
  · exact q.elim
def enumD (xs : List DV) : List DV := xs.mapIdx fun i x => mkT [.d (.int (i : Int)), x]
def qiEnum (ta : TDa) : TDi := fun ε st Q => ta ε st fun vs s1 => match vs with
  | [x] => (match seqSrc s1 x with | some (xs, inv) => Q (enumD xs) inv s1 | none => False)
  | _ => False
theorem enum_at {xs : List DV} {i : Nat} {z : DV} (h : (enumD xs)[i]? = some z) : ∃ x, xs[i]? = some x ∧ z = mkT [.d (.int (i : Int)), x] := by
  unfold enumD at h
  rw [List.getElem?_mapIdx] at h
  cases e : xs[i]? with
  | none => simp [e] at h
  | some x => simp [e] at h; exact ⟨x, rfl, h.symm⟩
theorem di_enum {e : Expr} {ta : TDa} {p pos tpos : Pos} {elts : List Expr} {kk' : Nat} (c : Cok P w K mg base X N sc fs k) (hg : glB sc "enumerate" = true) (hm : mg "enumerate" = none) (h : DA X [e] ta) (hs : starEach [e] X.env = [(false, eval e X.env)] := by rfl) : DI X (.Tuple elts kk' tpos) (.Call (.Name "enumerate" p) [e] [] pos) (qiEnum ta) := by
  obtain ⟨t1, p1, a1⟩ := h
  refine ⟨⟨_, pi_enumA (gl_of c hg).1 (by rw [c.hmg]; exact hm) p1 hs, fun F σ H ε st Qd R' R E h kk => ?_⟩⟩
  refine a1 F σ H ε st _ _ R E h fun F1 vs H1 xs s1 t1 R1 r q => ?_
  split at q
  · cases r with
    | cons r rr =>
      cases rr
      split at q
      rotate_left
      · exact q.elim
      rename_i xs inv es
      unfold seqSrc at es
      split at es
      · rename_i ys ex
        cases es
        obtain ⟨a, rfl, ⟨vs, hv⟩, h1⟩ := tsrc_at R1 r ex
        refine ⟨a, vs, rfl, .inr ⟨hv, kk F1 _ H1 _ _ s1 t1 R1 (fun F H st e R iv => ?_) q⟩⟩
        obtain ⟨vs, hv, s⟩ := h1 F H st e R
        refine ⟨fun i z hz => ?_, vs, hv, by unfold enumD; rw [List.length_mapIdx]; exact Nat.le_of_eq s.length⟩
        obtain ⟨x, hx, rfl⟩ := enum_at hz
        obtain ⟨u, hu, ru⟩ := s.get' hx
        refine ⟨⟨vs, u, hv, hu⟩, fun v H' ⟨T, x', e1, hT, e2, h3⟩ => ?_⟩
        subst e1 e2
        have q1 := h3 vs hv
        rw [hu] at q1
        cases q1
        exact pair_src R hT (.d (.int _)) ru
      · obtain ⟨a, rfl, ⟨vs, hv⟩, i1, h1⟩ := lsrc_at R1 r es
        refine ⟨a, vs, rfl, .inl ⟨hv, kk F1 _ H1 _ _ s1 t1 R1 (fun F H st e R iv => ?_) q⟩⟩
        obtain ⟨vs, hv, s⟩ := h1 F H st e R iv
        refine ⟨fun i z hz => ?_, vs, hv, by unfold enumD; rw [List.length_mapIdx]; exact Nat.le_of_eq s.length⟩
        obtain ⟨x, hx, rfl⟩ := enum_at hz
        obtain ⟨u, hu, ru⟩ := s.get' hx
        refine ⟨⟨vs, u, hv, hu⟩, fun v H' ⟨T, x', e1, hT, e2, h3⟩ => ?_⟩
        subst e1 e2
        have q1 := h3 vs hv
        rw [hu] at q1
        cases q1
        exact pair_src R hT (.d (.int _)) ru
  · exact q.elim
/-- the reading that a data reading gives, whatever the context is -/
def lift {α β : Type} (rel : Hp → α → β → Prop) (K : PySem.W.Frag) (t : Env → Sto → (β → Sto → Prop) → Prop) : L2.St → Hp → (α → Hp → Prop) → Prop := fun σ H Q => ∃ F ε st Qd, Rs K F H st ∧ RE K F σ ε ∧ t ε st Qd ∧ Kg rel K F H st Qd Q
theorem lift_sg {α β : Type} {rel : Hp → α → β → Prop} {t : Env → Sto → (β → Sto → Prop) → Prop} : Sg rel K (lift rel K t) t := fun F σ H ε st Qd Q R E h kk => ⟨F, ε, st, Qd, R, E, h, kk⟩
theorem DE.lift {e : Expr} {t : TD} (h : DE X e t) : PE X e (DL.lift (RV X.K) X.K t) := by
  obtain ⟨te, p, a⟩ := h
  exact ⟨fun pins s σ H Q I ⟨F, ε, st, Qd, R, E, h, kk⟩ => p.run pins s σ H Q I (a F σ H ε st Qd Q R E h kk)⟩
theorem DTs.lift {e : List Expr} {t : TDt} (h : DTs X e t) : PTs X e (DL.lift relT X.K t) := by
  obtain ⟨te, p, a⟩ := h
  exact ⟨fun pins s σ H Q I ⟨F, ε, st, Qd, R, E, h, kk⟩ => p.run pins s σ H Q I (a F σ H ε st Qd Q R E h kk)⟩
def liftG (K : PySem.W.Frag) (ws : List Nat) (t : TDg) : TG := fun v σ H Q => ∃ F ε st x Qd, Rs K F H st ∧ RE K F σ ε ∧ RV K F v x ∧ t x ε st Qd ∧
  ∀ F' σ' H' ε' st', Step F H st F' H' st' → Rs K F' H' st' → RE K F' σ' ε' → (∀ vs : List Nat, (∀ i ∈ ws, i ∈ vs) → wipe σ' vs = wipe σ vs) → Qd ε' st' → Q σ' H'
theorem DG.lift {e : Expr} {ws : List Nat} {t : TDg} (h : DG X e ws t) : PG X e (liftG X.K ws t) := by
  obtain ⟨te, p, a⟩ := h
  exact ⟨fun pins s σ H v u Q I r ⟨F, ε, st, x, Qd, R, E, rv, h, kk⟩ => p.run pins s σ H v u Q I r (a F σ H ε st v x Qd Q R E rv h kk)⟩
def liftI (K : PySem.W.Frag) (t : TDi) : TI := fun σ H R' => ∃ F ε st Qd, Rs K F H st ∧ RE K F σ ε ∧ t ε st Qd ∧ ∀ F' J H' items inv st', Step F H st F' H' st' → Rs K F' H' st' → Src K F' J items inv → Qd items inv st' → R' J H'
theorem DI.lift {tg e : Expr} {t : TDi} (h : DI X tg e t) : PI X tg e (liftI X.K t) := by
  obtain ⟨te, p, a⟩ := h
  exact ⟨fun pins s σ H R' I ⟨F, ε, st, Qd, R, E, h, kk⟩ => p.run pins s σ H R' I (a F σ H ε st Qd R' R E h kk)⟩
theorem de_lc {elt tg iter : Expr} {ifs : List Expr} {scope : Scope} {pos : Pos} {ti : TDi} {g : TDg} {tt : TDt} {te : TD} {ws : List Nat} (m : Bool) (own : List (Str × Nat)) (c : Cok P w K mg base X N sc fs k) (hb : blkC N sc scope own = true) (hw : ∀ i ∈ ws, i ∈ own.map (·.2)) (hi : DI X tg iter ti)
    (hg : ∀ X', Cok P w K mg base X' N (relS scope sc) scope k → DG X' tg ws g) (ht : ∀ X', Cok P w K mg base X' N (relS scope sc) scope k → DTs X' ifs tt) (he : ∀ X', Cok P w K mg base X' N (relS scope sc) scope k → DE X' elt te)
    (hs : ∀ x, foldedSetIterable iter X.env x = pure x := by intro _; rfl) : DE X (.ListComp elt [⟨tg, iter, ifs, 0⟩] scope pos) (qLc m ti g tt te (own.map (·.2))) := by
  have ok : BlkOk X.N X.env.scope scope own := by
    rw [c.hN, c.hs]
    exact blkOk_by hb
  have cb := fun s H C cl fp => c.blk (scope := scope) ok.kind s H C cl fp
  obtain ⟨wi, p0, a0⟩ := hi
  refine ⟨⟨_, pe_lc (g := liftG X.K ws g) (tt := DL.lift relT X.K tt) (te := DL.lift (RV X.K) X.K te) c.calm (by rw [c.hN]; exact c.nd) p0 ok (fun s H C cl fp => (hg _ (cb s H C cl fp)).lift) (fun s H C cl fp => (ht _ (cb s H C cl fp)).lift) (fun s H C cl fp => (he _ (cb s H C cl fp)).lift) hs,
    comp_sim hw a0 (fun F σ H ε st v x Qd Q R E r q kk => ⟨F, ε, st, x, Qd, R, E, r, q, kk⟩) lift_sg lift_sg⟩⟩
/-- name = [..] on one line -/
def setLcB (N : List Str) (sc : Scope) (i : Nat) (y : Str) : Bool := decide (N[i]? = some y) && decide (sc.names.lookup y = some .local)
theorem ds_setLc {elt tg iter : Expr} {ifs : List Expr} {scope : Scope} {i : Nat} {y : Str} {py pos spos : Pos} {ti : TDi} {g : TDg} {tt : TDt} {te : TD} {ws : List Nat} (m : Bool) (own : List (Str × Nat)) (c : Cok P w K mg base X N sc fs k) (hy : setLcB N sc i y = true)
    (hsw : swapsWith (.ListComp elt [⟨tg, iter, ifs, 0⟩] scope pos) (some (.Name y py)) spos.line (envS sc) = pure true) (hb : blkC N sc scope own = true) (hw : ∀ i ∈ ws, i ∈ own.map (·.2)) (hi : DI X tg iter ti)
    (hg : ∀ X', Cok P w K mg base X' N (relS scope sc) scope k → DG X' tg ws g) (ht : ∀ X', Cok P w K mg base X' N (relS scope sc) scope k → DTs X' ifs tt) (he : ∀ X', Cok P w K mg base X' N (relS scope sc) scope k → DE X' elt te)
    (hs : ∀ x, foldedSetIterable iter X.env x = pure x := by intro _; rfl) : DS X (.Assign [.Name y py] (.ListComp elt [⟨tg, iter, ifs, 0⟩] scope pos) spos) (qAsg (qLc m ti g tt te (own.map (·.2))) (qgN i)) := by
  unfold setLcB at hy
  simp only [Bool.and_eq_true, decide_eq_true_eq] at hy
  have ok : BlkOk X.N X.env.scope scope own := by
    rw [c.hN, c.hs]
    exact blkOk_by hb
  have cb := fun s H C cl fp => c.blk (scope := scope) ok.kind s H C cl fp
  obtain ⟨wi, p0, a0⟩ := hi
  refine ⟨⟨_, ps_setLc (i := i) (g := liftG X.K ws g) (tt := DL.lift relT X.K tt) (te := DL.lift (RV X.K) X.K te) c.calm (by rw [c.hN]; exact c.nd) (by rw [c.hN]; exact hy.1) (by rw [c.hs]; exact hy.2) ((swaps_S c _ _ _).trans hsw) p0 ok (fun s H C cl fp => (hg _ (cb s H C cl fp)).lift) (fun s H C cl fp => (ht _ (cb s H C cl fp)).lift) (fun s H C cl fp => (he _ (cb s H C cl fp)).lift) hs,
    fun F σ H ε st Dd D R E h kk => ?_⟩⟩
  refine comp_sim (K := X.K) hw a0 (fun F σ H ε st v x Qd Q R E r q kk => ⟨F, ε, st, x, Qd, R, E, r, q, kk⟩) lift_sg lift_sg F σ H ε st _ _ R E h fun F1 v H1 x st1 s1 R1 r q => ?_
  exact kk.nx F1 _ H1 _ st1 s1 R1 ((E.mono s1.ex).set r i) q
abbrev SpD := List DV → Sto → (DV → Sto → Prop) → Prop
def hsp (K : PySem.W.Frag) (sp : SpD) : Sp := fun vs H Q _ => ∃ F st xs Qd, Rs K F H st ∧ RVs K F vs xs ∧ sp xs st Qd ∧ Kg (RV K) K F H st Qd Q
def qCall (sp : SpD) (ta : TDa) : TD := fun ε st Q => ta ε st fun xs s1 => sp xs s1 Q
theorem de_call {x : Str} {e : Expr} {es : List Expr} {ta : TDa} {p pos : Pos} {f : Addr} {fd : FuncData} {ps : List Str} {sp : SpD} {j : Nat} (c : Cok P w K mg base X N sc fs k) (hg : glB sc x = true) (hm : mg x = some (.ref f)) (hk : PySem.W.keepIn K (.ref f) = true) (G : FnOk P w K mg base CX0 j f fd ps (hsp K sp)) (hj : j ≤ k) (b : Binds K fd ps [])
    (ha : DA X (e :: es) ta) (he : starEach (e :: es) X.env = (false, eval e X.env) :: starEach es X.env := by rfl) (hpl : (backTo pos (starEach es X.env)).any (·.1) = false := by rfl) : DE X (.Call (.Name x p) (e :: es) [] pos) (qCall sp ta) := by
  obtain ⟨t1, p1, a1⟩ := ha
  obtain ⟨hX1, hX2, hX3, hX4, hX5, _⟩ := id c
  have g := gl_of c hg
  have G' : FnOk X.prog X.w X.K X.mg X.base CX0 k f fd ps (hsp X.K sp) := by
    rw [hX1, hX2, hX3, hX4, hX5]
    exact G.mono hj
  refine ⟨⟨_, pe_call G' c.room g.1 (by rw [hX4]; exact hm) (by rw [hX3]; exact hk) (by rw [hX3]; exact b) .nil pass0 p1 g.2.2 he hpl, fun F σ H ε st Qd Q R E h kk => ?_⟩⟩
  refine a1 F σ H ε st _ _ R E h fun F1 vs H1 xs s1 t1 R1 r q => ?_
  show hsp X.K sp (vs ++ []) H1 Q E0
  rw [List.append_nil]
  exact ⟨F1, s1, xs, Qd, R1, r, q, kk.step t1⟩
/-- what is given out, all else of the store forgotten -/
def Fg (Q : DV → Sto → Prop) : DV → Sto → Prop := fun x st => ∃ st', Le st' st ∧ Q x st'
def startD (n : Nat) (xs : List DV) : Env := xs.map some ++ List.replicate (n - xs.length) none
theorem start_re {F : Hp} {vs : List V} {xs : List DV} (r : RVs K F vs xs) (N : List Str) : RE K F (L2.start N vs) (startD N.length xs) := by
  have hl := r.length
  refine ⟨by unfold L2.start startD; simp only [List.length_append, List.length_map, List.length_replicate]; omega, fun i x h => ?_⟩
  unfold startD at h
  unfold L2.start
  by_cases hi : i < xs.length
  · rw [List.getElem?_append_left (by rw [List.length_map]; exact hi), List.getElem?_map] at h
    rw [List.getElem?_append_left (by rw [List.length_map]; omega), List.getElem?_map]
    cases e : xs[i]? with
    | none => rw [e] at h; cases h
    | some y =>
      rw [e] at h
      cases h
      obtain ⟨v, hv, rv⟩ := r.get' e
      exact ⟨v, by rw [hv]; rfl, rv⟩
  · rw [List.getElem?_append_right (by rw [List.length_map]; omega), List.getElem?_replicate] at h
    split at h <;> cases h
/-- THE RULE of a def: its body's derivation, and its reading -/
theorem fn_ok {x qual : Str} {s : Stmt} {f : Addr} {fd : FuncData} {ps : List Str} {sp : SpD} {t : TDs} (Fu : Fun K x qual s f fd) (S : FnScope N ps (defScope s)) (len : ∀ xs st Q, sp xs st Q → xs.length = ps.length)
    (hbody : ∀ X, Cok P w K mg base X N (defScope s) (defScope s) k → DSs X (defBody s) t)
    (hsem : ∀ xs st Q, sp xs st Q → t { nx := fun _ st' => Fg Q (.d .none) st', rt := Fg Q } (startD N.length xs) st) : FnOk P w K mg base CX0 (k + 1) f fd ps (hsp K sp) := by
  refine Fu.ok S (fun vs H Q E ⟨F, st, xs, Qd, R, r, h, kk⟩ => r.length.trans (len xs st Qd h)) (fun cdv A outer s' H vs Q E hr ⟨F, st, xs, Qd, R, r, h, kk⟩ => ?_)
  have c : Cok P w K mg base (cxOf CX0 P w K mg base N qual (defScope s) f cdv A outer s' H E).nox N (defScope s) (defScope s) k :=
    ⟨rfl, rfl, rfl, rfl, rfl, rfl, S.nd, S.kind, rfl, rfl, fun _ _ => rfl, hr, fun _ _ h => h.elim⟩
  obtain ⟨ts, p, a⟩ := hbody _ c
  have fin : ∀ F' v H' x' st', Step F H st F' H' st' → Rs K F' H' st' → RV K F' v x' → Fg Qd x' st' → Q v H' := fun F' v H' x' st' t R' r' ⟨st2, le, q⟩ =>
    kk F' v H' x' st2 ⟨t.ex, fun b o e n => ⟨(t.pres b o e n).1, by
      cases e2 : st2 b with
      | none => rfl
      | some m => have := le b m e2; rw [(t.pres b o e n).2] at this; cases this⟩, t.fnew⟩ (R'.le le) r' q
  refine ⟨ts, p, a F _ H (startD N.length xs) st _ _ R (start_re r N) (hsem xs st Qd h) ⟨fun F' σ' H' ε' st' t R' E' q => fin F' .non H' (.d .none) st' t R' (.d .non) q, fin, fun _ _ _ _ _ _ _ _ z => z.elim, fun _ _ _ _ _ _ _ _ z => z.elim⟩⟩
end
end DL
end
section
set_option Elab.async false
set_option linter.all false
set_option maxRecDepth 100000
set_option maxHeartbeats 4000000
namespace DL
open PySem L2 PyProof.Rows
section
variable {P : Program} {w : World} {K : PySem.W.Frag} {mg : Str → Option Value} {base : Heap} {X : Cx} {N : List Str} {sc fs : Scope} {k : Nat}
theorem Cok.hu (c : Cok P w K mg base X N sc fs k) : X.A.units + 1 < cLine := hu_of c.room
theorem Cok.hu64 (c : Cok P w K mg base X N sc fs k) : X.A.units + 64 < cLine := c.room.units
theorem Cok.hu0 (c : Cok P w K mg base X N sc fs k) : X.A.units < cLine := c.room.units0
def qCB (r : RLD) (ta : TDa) : TD := fun ε st Q => ta ε st fun xs s1 => r xs s1 Q
theorem de_cb {x : Str} {e : Expr} {es : List Expr} {ta : TDa} {p pos : Pos} {id : String} {r : RLD} (c : Cok P w K mg base X N sc fs k) (hg : glB sc x = true) (hm : mg x = none) (hv : bootBuiltins x = some (.builtin id)) (hc : ∃ r', CallR X (.builtin id) r' ∧ SL X.K r' r)
    (ha : DA X (e :: es) ta) (he : starEach (e :: es) X.env = (false, eval e X.env) :: starEach es X.env := by rfl) (hpl : (backTo pos (starEach es X.env)).any (·.1) = false := by rfl) : DE X (.Call (.Name x p) (e :: es) [] pos) (qCB r ta) := by
  obtain ⟨t1, p1, a1⟩ := ha
  obtain ⟨r', h1, h2⟩ := hc
  have g := gl_of c hg
  refine ⟨⟨_, pe_callB h1 g.1 (by rw [c.hmg]; exact hm) hv p1 g.2.1 g.2.2 he hpl, fun F σ H ε st Qd Q R E h kk => a1.go R E h kk fun F1 H1 s1 v x R1 E1 rv q kk => h2 F1 H1 s1 v x _ _ R1 rv q kk⟩⟩
theorem de_ct {x : Str} {e : Expr} {es : List Expr} {ta : TDa} {p pos : Pos} {T : String} {r : RLD} (c : Cok P w K mg base X N sc fs k) (hg : glB sc x = true) (hm : mg x = none) (hv : bootBuiltins x = some (.type T)) (hc : ∃ r', CallR X (.type T) r' ∧ SL X.K r' r)
    (ha : DA X (e :: es) ta) (he : starEach (e :: es) X.env = (false, eval e X.env) :: starEach es X.env := by rfl) (hpl : (backTo pos (starEach es X.env)).any (·.1) = false := by rfl) : DE X (.Call (.Name x p) (e :: es) [] pos) (qCB r ta) := by
  obtain ⟨t1, p1, a1⟩ := ha
  obtain ⟨r', h1, h2⟩ := hc
  have g := gl_of c hg
  refine ⟨⟨_, pe_callTy h1 g.1 (by rw [c.hmg]; exact hm) hv p1 g.2.1 g.2.2 he hpl, fun F σ H ε st Qd Q R E h kk => a1.go R E h kk fun F1 H1 s1 v x R1 E1 rv q kk => h2 F1 H1 s1 v x _ _ R1 rv q kk⟩⟩
theorem CallR.or2 {f : Value} {r r' : List V → Hp → VK → Prop} (h : CallR X f r) (h' : CallR X f r') : CallR X f (fun x H Q => r x H Q ∨ r' x H Q) := by
  intro pins s σ H xs us Q I rx q
  rcases q with q | q
  · exact h pins s σ H xs us Q I rx q
  · exact h' pins s σ H xs us Q I rx q
theorem rvs1 {F : Hp} {vs : List V} {x : DV} (r : RVs K F vs [x]) : ∃ v, vs = [v] ∧ RV K F v x := by
  cases r with
  | cons a b => cases b; exact ⟨_, rfl, a⟩
theorem rvs2 {F : Hp} {vs : List V} {x y : DV} (r : RVs K F vs [x, y]) : ∃ v w, vs = [v, w] ∧ RV K F v x ∧ RV K F w y := by
  cases r with
  | cons a b => cases b with | cons b c => cases c; exact ⟨_, _, rfl, a, b⟩
/-- len -/
def qLen : RLD := fun xs st Q => match xs with
  | [.d (.str z)] => z.length ≤ sizeLine ∧ Q (.d (.int (z.length : Int))) st
  | [x] => (match sitems st x with
    | some l => Q (.d (.int (l.length : Int))) st
    | none => match x with
      | .r a => (match st a with
        | some (.dK kvs) => Q (.d (.int (kvs.length : Int))) st
        | _ => False)
      | _ => False)
  | _ => False
theorem c_len : ∃ r', CallR X (.builtin "len") r' ∧ SL X.K r' qLen := by
  refine ⟨_, CallR.or2 (CallR.or2 call_len_str call_len_seq) call_lenD, ?_⟩
  intro F H st vs xs Qd Q R rv h kk
  unfold qLen at h
  split at h
  · obtain ⟨v, rfl, r⟩ := rvs1 rv
    cases rv_str r
    exact .inl (.inl ⟨_, rfl, h.1, kk.at R (.d (.int _)) h.2⟩)
  · obtain ⟨v, rfl, r⟩ := rvs1 rv
    split at h
    · rename_i l el
      obtain ⟨p, ys, rfl, hq, s⟩ := sitems_rv R r el
      refine .inl (.inr ⟨p, ys, rfl, hq, ?_⟩)
      rw [s.length]
      exact kk.at R (.d (.int _)) h
    · split at h
      · rename_i a hx
        cases r
        split at h
        · rename_i kvs e
          obtain ⟨ws, q, s⟩ := R.ok _ _ e
          have hl : ws.length = kvs.length := Paired.length s
          refine .inr ⟨_, ws, rfl, q, ?_⟩
          rw [hl]
          exact kk.at R (.d (.int _)) h
        · exact h.elim
      · exact h.elim
  · exact h.elim
/-- tuple(x), list(x) -/
def qTupleC : RLD := fun xs st Q => match xs with
  | [x] => (match sitems st x with | some l => Q (mkT l) st | none => False)
  | _ => False
theorem c_tuple : ∃ r', CallR X (.type "tuple") r' ∧ SL X.K r' qTupleC := by
  refine ⟨_, call_tuple_of, ?_⟩
  intro F H st vs xs Qd Q R rv h kk
  unfold qTupleC at h
  split at h
  · obtain ⟨v, rfl, r⟩ := rvs1 rv
    split at h
    · rename_i x l el
      unfold sitems at el
      split at el
      · rename_i l' et
        cases el
        obtain ⟨p, ys, rfl, hq, s⟩ := titems_rv r et
        exact ⟨p, ys, rfl, .inr ⟨SqT.of (R.sub _ _ hq).1, kk.at R (mkT_rv hq s) h⟩⟩
      · obtain ⟨p, ys, rfl, hq, s⟩ := litems_rv R r el
        exact ⟨p, ys, rfl, .inl ⟨hq, fun l hl => new_tup R s hl h kk⟩⟩
    · exact h.elim
  · exact h.elim
def qListC (m : Bool) : RLD := fun xs st Q => match xs with
  | [x] => (match sitems st x with | some l => newL m l st Q | none => False)
  | _ => False
theorem c_list (m : Bool) : ∃ r', CallR X (.type "list") r' ∧ SL X.K r' (qListC m) := by
  refine ⟨_, call_list_of, ?_⟩
  intro F H st vs xs Qd Q R rv h kk
  unfold qListC at h
  split at h
  · obtain ⟨v, rfl, r⟩ := rvs1 rv
    split at h
    · rename_i x l el
      obtain ⟨p, ys, rfl, hq, s⟩ := sitems_rv R r el
      exact ⟨p, ys, rfl, hq, fun l hl => new_lst R s hl h kk⟩
    · exact h.elim
  · exact h.elim
/-- max, min of two -/
def qMax2 : RLD := fun xs st Q => match xs with
  | [.d (.int i), .d (.int j)] => Q (.d (.int (if j > i then j else i))) st
  | _ => False
def qMin2 : RLD := fun xs st Q => match xs with
  | [.d (.int i), .d (.int j)] => Q (.d (.int (if j < i then j else i))) st
  | _ => False
theorem c_max2 (hc : X.calm = true) : ∃ r', CallR X (.builtin "max") r' ∧ SL X.K r' qMax2 := by
  refine ⟨_, call_max2 hc, ?_⟩
  intro F H st vs xs Qd Q R rv h kk
  unfold qMax2 at h
  split at h
  · obtain ⟨v, w', rfl, r, r2⟩ := rvs2 rv
    cases rv_int r; cases rv_int r2
    exact ⟨_, _, rfl, kk.at R (.d (.int _)) h⟩
  · exact h.elim
/-- int(n) -/
def qIntC : RLD := fun xs st Q => match xs with
  | [.d (.int i)] => Q (.d (.int i)) st
  | [.d (.bool b)] => Q (.d (.int (if b then 1 else 0))) st
  | _ => False
theorem c_int : ∃ r', CallR X (.type "int") r' ∧ SL X.K r' qIntC := by
  refine ⟨_, call_int1, ?_⟩
  intro F H st vs xs Qd Q R rv h kk
  unfold qIntC at h
  split at h
  · obtain ⟨v, rfl, r⟩ := rvs1 rv
    cases rv_int r
    exact .inl ⟨_, rfl, kk.at R (.d (.int _)) h⟩
  · obtain ⟨v, rfl, r⟩ := rvs1 rv
    cases rv_bool r
    exact .inr ⟨_, rfl, kk.at R (.d (.int _)) h⟩
  · exact h.elim
/-- sum of ints -/
def rSumT (K : PySem.W.Frag) : List V → Hp → VK → Prop := fun vs H Q => ∃ (a : Addr) (ns : List Int), vs = [V.ref a] ∧ SqT K H a (ns.map V.int) ∧ Q (.int ns.sum) H
theorem cr_sumT (hc : X.calm = true) : CallR X (.builtin "sum") (rSumT X.K) := by
  intro pins s σ H vs us Q I r h
  obtain ⟨a, ns, rfl, hs, q⟩ := h
  obtain ⟨its, rv, hl, _⟩ := I.tuple hs
  rw [Vals.ref1 r]
  have hi := rv.ints
  obtain ⟨xs, e⟩ := hi.allInts.items
  have hn : numsOf (intItems xs).toList = ns := by rw [← e]; exact hi.numsOf
  rw [nums_intItems] at hn
  rw [e] at hl
  refine PySem.W.ktm_sumG (I.ok.hd hc) (show s.heap.IsTuple a (intItems xs) from hl) fun h' tk t' hk => ?_
  rw [preSum_eq, List.take_of_length_le (by simp), hn]
  exact ⟨.int _, H, I.kept hk, ⟨_, rfl⟩, q⟩
def qSum : RLD := fun xs st Q => match xs with
  | [x] => (match sitems st x with | some l => (match dints l with | some ns => Q (.d (.int ns.sum)) st | none => False) | none => False)
  | _ => False
theorem c_sum (hc : X.calm = true) : ∃ r', CallR X (.builtin "sum") r' ∧ SL X.K r' qSum := by
  refine ⟨_, CallR.or2 (cr_sum hc) (cr_sumT hc), ?_⟩
  intro F H st vs xs Qd Q R rv h kk
  unfold qSum at h
  split at h
  · obtain ⟨v, rfl, r⟩ := rvs1 rv
    split at h
    · rename_i x l el
      split at h
      rotate_left
      · exact h.elim
      rename_i ns en
      have q := h
      obtain ⟨p, ys, rfl, hq, s⟩ := sitems_rv R r el
      obtain ⟨rfl, _⟩ := dints_rvs s en
      rcases hq with hq | hq
      · exact .inl ⟨p, ns, rfl, hq, kk.at R (.d (.int _)) q⟩
      · exact .inr ⟨p, ns, rfl, hq, kk.at R (.d (.int _)) q⟩
    · exact h.elim
  · exact h.elim
/-- any, all of truth values -/
def dbools : List DV → Option (List Bool)
  | [] => some []
  | .d (.bool i) :: r => (dbools r).map (i :: ·)
  | _ :: _ => none
theorem dbools_rvs : ∀ {F : Hp} {vs : List V} {xs : List DV} {ns : List Bool}, RVs K F vs xs → dbools xs = some ns → vs = ns.map V.bl
  | _, _, [], ns, r, h => by cases h; cases r; rfl
  | F, v :: vs, .d (.bool i) :: xs, ns, .cons r q, h => by
    cases e : dbools xs with
    | none => simp [dbools, e] at h
    | some l =>
      simp [dbools, e] at h
      subst h
      cases rv_bool r
      rw [dbools_rvs q e]
      rfl
theorem dbools_map : ∀ l : List Bool, dbools (l.map fun i => .d (.bool i)) = some l
  | [] => rfl
  | i :: r => by simp [dbools, dbools_map r]
def qAny : RLD := fun xs st Q => match xs with
  | [x] => (match litems st x with | some l => (match dbools l with | some ns => Q (.d (.bool (ns.any id))) st | none => False) | none => False)
  | _ => False
def qAll : RLD := fun xs st Q => match xs with
  | [x] => (match litems st x with | some l => (match dbools l with | some ns => Q (.d (.bool (ns.all id))) st | none => False) | none => False)
  | _ => False
theorem c_any (hc : X.calm = true) : ∃ r', CallR X (.builtin "any") r' ∧ SL X.K r' qAny := by
  refine ⟨_, cr_any hc, ?_⟩
  intro F H st vs xs Qd Q R rv h kk
  unfold qAny at h
  split at h
  · obtain ⟨v, rfl, r⟩ := rvs1 rv
    split at h
    · rename_i x l el
      split at h
      rotate_left
      · exact h.elim
      rename_i ns en
      have q := h
      obtain ⟨p, ys, rfl, hq, s⟩ := litems_rv R r el
      cases dbools_rvs s en
      exact ⟨p, ns, rfl, hq, kk.at R (.d (.bl _)) q⟩
    · exact h.elim
  · exact h.elim
theorem c_all (hc : X.calm = true) : ∃ r', CallR X (.builtin "all") r' ∧ SL X.K r' qAll := by
  refine ⟨_, cr_all hc, ?_⟩
  intro F H st vs xs Qd Q R rv h kk
  unfold qAll at h
  split at h
  · obtain ⟨v, rfl, r⟩ := rvs1 rv
    split at h
    · rename_i x l el
      split at h
      rotate_left
      · exact h.elim
      rename_i ns en
      have q := h
      obtain ⟨p, ys, rfl, hq, s⟩ := litems_rv R r el
      cases dbools_rvs s en
      exact ⟨p, ns, rfl, hq, kk.at R (.d (.bl _)) q⟩
    · exact h.elim
  · exact h.elim
def tyName (st : Sto) : DV → Option String
  | .d .none => some "NoneType"
  | .d (.bool _) => some "bool"
  | .d (.int _) => some "int"
  | .d (.str _) => some "str"
  | .d (.list _) => some "list"
  | .d (.tuple _) => some "tuple"
  | .d (.dict _) => none
  | .t _ => some "tuple"
  | .r a => match st a with | some (.lst _) => some "list" | some (.dK _) => some "dict" | some (.dT _) => some "dict" | _ => none
def qIsi (T : String) (ta : TD) : TD := fun ε st Q => ta ε st fun x s1 => match tyName s1 x with
  | some T' => (match kitB T' T with | some b => Q (.d (.bool b)) s1 | none => False)
  | none => False
def keyD : DV → Option Key
  | .d (.int i) => some (.inl i)
  | .d (.str x) => some (.inr x)
  | _ => none
def keyT : List DV → Option (List Key)
  | [] => some []
  | x :: r => match keyD x, keyT r with | some k, some l => some (k :: l) | _, _ => none
def lookD {κ : Type} [DecidableEq κ] (kvs : List (κ × DV)) (k : κ) : Option DV := (kvs.find? fun kv => decide (kv.1 = k)).map (·.2)
def putD {κ : Type} [DecidableEq κ] (kvs : List (κ × DV)) (k : κ) (v : DV) : List (κ × DV) :=
  if (kvs.any fun kv => decide (kv.1 = k)) = true then kvs.map fun kv => if kv.1 = k then (kv.1, v) else kv else kvs ++ [(k, v)]
abbrev PR (K : PySem.W.Frag) (F : Hp) {κ : Type} : List (κ × V) → List (κ × DV) → Prop := Paired fun p q => p.1 = q.1 ∧ RV K F p.2 q.2
theorem key_rv {F : Hp} {v : V} {x : DV} {q : Key} (r : RV K F v x) (h : keyD x = some q) : v = kV q := by
  cases x with
  | d z =>
    cases z with
    | int i => cases h; exact rv_int r
    | str s => cases h; exact rv_str r
    | _ => cases h
  | r a => cases h
  | t a => cases h
theorem keyT_rv : ∀ {F : Hp} {vs : List V} {xs : List DV} {q : List Key}, RVs K F vs xs → keyT xs = some q → vs = q.map kV
  | _, _, [], q, r, h => by cases h; cases r; rfl
  | F, v :: vs, x :: xs, q, .cons r s, h => by
    unfold keyT at h
    cases e1 : keyD x with
    | none => rw [e1] at h; cases h
    | some a =>
      cases e2 : keyT xs with
      | none => rw [e1, e2] at h; cases h
      | some l =>
        rw [e1, e2] at h
        cases h
        rw [key_rv r e1, keyT_rv s e2]
        rfl
theorem look_rv {κ : Type} [DecidableEq κ] {F : Hp} {ws : List (κ × V)} {kvs : List (κ × DV)} (r : PR K F ws kvs) (q : κ) : (∃ v x, valV ws q = some v ∧ lookD kvs q = some x ∧ RV K F v x) ∨ (valV ws q = none ∧ lookD kvs q = none) := by
  induction r with
  | nil => exact .inr ⟨rfl, rfl⟩
  | @cons a b l1 l2 h t ih =>
    obtain ⟨e, r⟩ := h
    by_cases hq : a.1 = q
    · refine .inl ⟨a.2, b.2, valV_pos hq, ?_, r⟩
      unfold lookD
      rw [List.find?_cons, decide_eq_true (e ▸ hq)]
      rfl
    · have h1 : valV (a :: l1) q = valV l1 q := valV_neg hq
      have h2 : lookD (b :: l2) q = lookD l2 q := by
        unfold lookD
        rw [List.find?_cons, decide_eq_false (e ▸ hq)]
      rw [h1, h2]
      exact ih
theorem put_rv {κ : Type} [DecidableEq κ] {F : Hp} {ws : List (κ × V)} {kvs : List (κ × DV)} (r : PR K F ws kvs) (q : κ) {v : V} {x : DV} (rx : RV K F v x) : PR K F (putK ws q v) (putD kvs q x) := by
  have ha : (ws.any fun kv => decide (kv.1 = q)) = kvs.any fun kv => decide (kv.1 = q) := by
    clear rx
    induction r with
    | nil => rfl
    | @cons a b l1 l2 h t ih => rw [List.any_cons, List.any_cons, ih, h.1]
  unfold putK putD
  rw [ha]
  by_cases h : (kvs.any fun kv => decide (kv.1 = q)) = true
  · rw [if_pos h, if_pos h]
    clear ha h
    induction r with
    | nil => exact .nil
    | @cons a b l1 l2 h t ih =>
      rw [List.map_cons, List.map_cons]
      refine .cons ?_ ih
      by_cases e : a.1 = q
      · rw [if_pos e, if_pos (h.1 ▸ e)]
        exact ⟨h.1, rx⟩
      · rw [if_neg e, if_neg (h.1 ▸ e)]
        exact h
  · rw [if_neg h, if_neg h]
    exact Paired.snoc r ⟨rfl, rx⟩
/-- what a dict of the store holds at a key -/
def dlook (m : Option MO) (y : DV) : Option (Option DV) := match m with
  | some (.dK kvs) => (keyD y).map fun q => lookD kvs q
  | some (.dT kvs) => match titems y with | some ys => (keyT ys).map fun q => lookD kvs q | none => none
  | some (.lk _ _ kvs) => match titems y with | some ys => (keyT ys).map fun q => lookD kvs q | none => none
  | _ => none
theorem dlook_at {F H : Hp} {st : Sto} {a : Addr} {u : V} {y : DV} {o : Option DV} (R : Rs K F H st) (r : RV K F u y) (h : dlook (st a) y = some o) : (∃ v x, o = some x ∧ DGet H a u (some v) ∧ RV K F v x) ∨ (o = none ∧ DGet H a u none) := by
  unfold dlook at h
  split at h
  · rename_i kvs e
    obtain ⟨ws, hw, s⟩ := R.ok a _ e
    cases ek : keyD y with
    | none => rw [ek] at h; cases h
    | some q =>
      rw [ek] at h
      cases h
      rw [key_rv r ek]
      rcases look_rv s q with ⟨v, x, e1, e2, rx⟩ | ⟨e1, e2⟩
      · refine .inl ⟨v, x, e2, ?_, rx⟩
        rw [← e1]
        exact DGet.k hw
      · refine .inr ⟨e2, ?_⟩
        rw [← e1]
        exact DGet.k hw
  · rename_i kvs e
    obtain ⟨ws, hw, s⟩ := R.ok a _ e
    split at h
    · rename_i ys ey
      obtain ⟨b, vs, rfl, hb, sb⟩ := titems_rv r ey
      cases ek : keyT ys with
      | none => rw [ek] at h; cases h
      | some q =>
        rw [ek] at h
        cases h
        have hv := keyT_rv sb ek
        subst hv
        have hb' := (R.sub _ _ hb).1
        rcases look_rv s q with ⟨v, x, e1, e2, rx⟩ | ⟨e1, e2⟩
        · refine .inl ⟨v, x, e2, ?_, rx⟩
          rw [← e1]
          exact DGet.t hw hb'
        · refine .inr ⟨e2, ?_⟩
          rw [← e1]
          exact DGet.t hw hb'
    · cases h
  · rename_i ob ws kvs e
    obtain ⟨hw, s⟩ := R.ok a _ e
    split at h
    · rename_i ys ey
      obtain ⟨b, vs, rfl, hb, sb⟩ := titems_rv r ey
      cases ek : keyT ys with
      | none => rw [ek] at h; cases h
      | some q =>
        rw [ek] at h
        cases h
        have hv := keyT_rv sb ek
        subst hv
        have hb' := (R.sub _ _ hb).1
        rcases look_rv s q with ⟨v, x, e1, e2, rx⟩ | ⟨e1, e2⟩
        · refine .inl ⟨v, x, e2, ?_, rx⟩
          rw [← e1]
          exact .inr ⟨ws, q, b, .inr ⟨ob, hw⟩, rfl, hb', rfl⟩
        · refine .inr ⟨e2, ?_⟩
          rw [← e1]
          exact .inr ⟨ws, q, b, .inr ⟨ob, hw⟩, rfl, hb', rfl⟩
    · cases h
  · cases h
def dput (m : Option MO) (y x : DV) : Option MO := match m with
  | some (.dK kvs) => match keyD y with | some q => if kvs.length < sizeLine then some (.dK (putD kvs q x)) else none | none => none
  | some (.dT kvs) => match titems y with | some ys => (match keyT ys with | some q => if kvs.length < sizeLine then some (.dT (putD kvs q x)) else none | none => none) | none => none
  | _ => none
theorem dput_at {F H : Hp} {st : Sto} {a : Addr} {u v : V} {y x : DV} {m : MO} (R : Rs K F H st) (r : RV K F u y) (rx : RV K F v x) (h : dput (st a) y x = some m) : ∃ H', DPut H a u v H' ∧ Step F H st F H' (up st a m) ∧ Rs K F H' (up st a m) := by
  unfold dput at h
  split at h
  · rename_i kvs e
    obtain ⟨ws, hw, s⟩ := R.ok a _ e
    split at h
    · rename_i q ek
      split at h
      · rename_i hl
        cases h
        rw [key_rv r ek]
        have hl2 : ws.length = kvs.length := Paired.length s
        obtain ⟨R', t⟩ := R.put (o := .dK (putK ws q v)) (m := .dK (putD kvs q x)) e ⟨_, upd_same, put_rv s q rx⟩
        exact ⟨_, DPut.k hw (by omega), t, R'⟩
      · cases h
    · cases h
  · rename_i kvs e
    obtain ⟨ws, hw, s⟩ := R.ok a _ e
    split at h
    · rename_i ys ey
      obtain ⟨b, vs, rfl, hb, sb⟩ := titems_rv r ey
      split at h
      · rename_i q ek
        split at h
        · rename_i hl
          cases h
          have hv := keyT_rv sb ek
          subst hv
          have hl2 : ws.length = kvs.length := Paired.length s
          obtain ⟨R', t⟩ := R.put (o := .dT (putK ws q v)) (m := .dT (putD kvs q x)) e ⟨_, upd_same, put_rv s q rx⟩
          exact ⟨_, DPut.t hw (R.sub _ _ hb).1 (by omega), t, R'⟩
        · cases h
      · cases h
    · cases h
  · cases h
def qDGet : R2D := fun x y st Q => match x with
  | .r a => (match dlook (st a) y with | some (some z) => Q z st | _ => False)
  | _ => False
theorem de_dget {o i : Expr} {pos : Pos} {ta tb : TD} (c : Cok P w K mg base X N sc fs k) (ho : DE X o ta) (hi : DE X i tb) (hs : NoSl i) : DE X (.Subscript o i pos) (qOp qDGet ta tb) := by
  obtain ⟨te, pa, sa⟩ := ho
  obtain ⟨tf, pb, sb⟩ := hi
  refine ⟨⟨_, pe_dget c.hu pa pb hs, Sg.bin (r' := fun x y H Q => ∃ a v, x = .ref a ∧ DGet H a y (some v) ∧ Q v H) sa sb (fun _ _ _ _ e h => RV.mono e h) ?_⟩⟩
  intro F H st v w x y Qd Q R rv rw' h kk
  unfold qDGet at h
  split at h
  · cases rv
    split at h
    · rename_i z e
      rcases dlook_at R rw' e with ⟨v, x, e1, g, rx⟩ | ⟨e1, _⟩
      · cases e1
        exact ⟨_, v, rfl, g, kk.at R rx h⟩
      · cases e1
    · exact h.elim
  · exact h.elim
def qDIn (neg : Bool) : R2D := fun y x st Q => match x with
  | .r a => (match dlook (st a) y with | some o => Q (.d (.bool (if neg then !o.isSome else o.isSome))) st | none => False)
  | _ => False
/-- d[k] = v -/
def qDPut (td ty tv : TD) : TDs := fun D ε st => tv ε st fun v s1 => td ε s1 fun x s2 => ty ε s2 fun y s3 => match x with
  | .r a => (match dput (s3 a) y v with | some m => D.nx ε (up s3 a m) | none => False)
  | _ => False
theorem ds_dput {o i value : Expr} {pos pos' : Pos} {td ty tv : TD} (c : Cok P w K mg base X N sc fs k) (ho : DE X o td) (hi : DE X i ty) (hv : DE X value tv) (hs : swapsWith value (some (.Subscript o i pos')) pos.line X.env = pure false) : DS X (.Assign [.Subscript o i pos'] value pos) (qDPut td ty tv) := by
  obtain ⟨t1, p1, a1⟩ := ho
  obtain ⟨t2, p2, a2⟩ := hi
  obtain ⟨t3, p3, a3⟩ := hv
  refine ⟨⟨_, ps_dput c.hu p1 p2 p3 hs, fun F σ H ε st Dd D R E h kk => ?_⟩⟩
  refine a3 F σ H ε st _ _ R E h fun F1 v H1 x s1 st1 R1 r1 q => ?_
  refine a1 F1 σ H1 ε s1 _ _ R1 (E.mono st1.ex) q fun F2 u H2 y s2 st2 R2 r2 q => ?_
  refine a2 F2 σ H2 ε s2 _ _ R2 (E.mono (st1.trans st2).ex) q fun F3 z H3 y' s3 st3 R3 r3 q => ?_
  split at q
  · cases r2
    split at q
    rotate_left
    · exact q.elim
    rename_i m em
    obtain ⟨H4, g, t, R4⟩ := dput_at R3 r3 (r1.mono (st2.trans st3).ex) em
    exact ⟨_, H4, rfl, g, kk.nx F3 σ H4 ε _ (((st1.trans st2).trans st3).trans t) R4 (E.mono ((st1.trans st2).trans st3).ex) q⟩
  · exact q.elim
def qDNew (T : Bool) : TD := fun _ st Q => ∀ p, st p = none → Q (.r p) (up st p (if T then .dT [] else .dK []))
theorem de_dnew {pos : Pos} (T : Bool) : DE X (.Dict [] [] pos) (qDNew T) := by
  cases T with
  | true => exact ⟨⟨_, pe_dnewT, fun F σ H ε st Qd Q R E h kk p hp => by
      obtain ⟨R', t⟩ := R.new (o := .dT []) (m := .dT []) hp ⟨[], upd_same, .nil⟩
      exact kk _ _ _ _ _ t R' (.r p) (h p (R.free hp).2)⟩⟩
  | false => exact ⟨⟨_, pe_dnewK, fun F σ H ε st Qd Q R E h kk p hp => by
      obtain ⟨R', t⟩ := R.new (o := .dK []) (m := .dK []) hp ⟨[], upd_same, .nil⟩
      exact kk _ _ _ _ _ t R' (.r p) (h p (R.free hp).2)⟩⟩
end
end DL
end
section
set_option Elab.async false
set_option linter.all false
set_option maxRecDepth 100000
set_option maxHeartbeats 4000000
namespace DLM
open PySem PySem.Spec
open AutoSeq1 (wpAny_loadPart' idx_int sub_tuple_tuple sub_list_list sub_tuple_list sub_list_tuple)
theorem list_extend_gen (l : Addr) (items : Array Value) (n : Nat) (b : Addr) (items2 : Array Value) (n2 : Nat) (sl : Array (Option Value)) (hc0 : ¬(!items.isEmpty && Builtin.List.listTooLong (items.size + items2.size)) = true) (hc1 : items.size ≤ sizeLine) (hs2 : items.size + items2.size ≤ sizeLine + 1) :
    Meets (Builtin.«list.extend» ⟨[.ref l, .ref b], []⟩) (fun _ R s => s.heap.get? l = some { cls := .type "list", dict := none, data := .seq items n, slots := #[] } ∧ s.heap.get? b = some { cls := .type "list", dict := none, data := .seq items2 n2, slots := sl } ∧ R (.ok (.ret Value.none)) { s with heap := s.heap.update l (Obj.mapSeq fun x => x ++ items2), toks := s.toks }) :=
  .of_wp fun prog w A R s h => by
    obtain ⟨hp, g, d, tk, os⟩ := s; obtain ⟨hl, hb, h⟩ := h; have f1 := idx_int; have f2 := sub_tuple_tuple; have f3 := sub_list_list; have f4 := sub_tuple_list; have f5 := sub_list_tuple;
    have hz' : (items ++ items2).size ≤ sizeLine + 1 := by rw [Array.size_append]; exact hs2
    wp_walk using (wpAny_updateSeq hl rfl (hz := hc1) (_hz' := hz')), wpAny_loadPart' hl, wpAny_loadPart' hb; exact ⟨_, rfl, h⟩
theorem list_extend_genT (l : Addr) (items : Array Value) (n : Nat) (b : Addr) (items2 : Array Value) (n2 : Nat) (dd : Option Addr) (sl : Array (Option Value)) (hc0 : ¬(!items.isEmpty && Builtin.List.listTooLong (items.size + items2.size)) = true) (hc1 : items.size ≤ sizeLine) (hs2 : items.size + items2.size ≤ sizeLine + 1) :
    Meets (Builtin.«list.extend» ⟨[.ref l, .ref b], []⟩) (fun _ R s => s.heap.get? l = some { cls := .type "list", dict := none, data := .seq items n, slots := #[] } ∧ s.heap.get? b = some { cls := .type "tuple", dict := dd, data := .seq items2 n2, slots := sl } ∧ R (.ok (.ret Value.none)) { s with heap := s.heap.update l (Obj.mapSeq fun x => x ++ items2), toks := s.toks }) :=
  .of_wp fun prog w A R s h => by
    obtain ⟨hp, g, d, tk, os⟩ := s; obtain ⟨hl, hb, h⟩ := h; have f1 := idx_int; have f2 := sub_tuple_tuple; have f3 := sub_list_list; have f4 := sub_tuple_list; have f5 := sub_list_tuple;
    have hz' : (items ++ items2).size ≤ sizeLine + 1 := by rw [Array.size_append]; exact hs2
    wp_walk using (wpAny_updateSeq hl rfl (hz := hc1) (_hz' := hz')), wpAny_loadPart' hl, wpAny_loadPart' hb; exact ⟨_, rfl, h⟩
end DLM
namespace DL
open PySem L2 PyProof.Rows
section
variable {P : Program} {w : World} {K : PySem.W.Frag} {mg : Str → Option Value} {base : Heap} {X : Cx} {N : List Str} {sc fs : Scope} {k : Nat}
def qPairs : List (Str × TD) → Env → Sto → (List (Key × DV) → Sto → Prop) → Prop
  | [], _, st, Q => Q [] st
  | (x, t) :: r, ε, st, Q => t ε st fun v s1 => qPairs r ε s1 fun ps s2 => Q ((.inr x, v) :: ps) s2
structure DPs (X : Cx) (pos : Pos) (keys : List (Option Expr)) (values : List Expr) (l : List (Str × TD)) : Prop where
  ex : ∃ trs, PPs X pos keys values trs ∧ ∀ F σ H ε st Qd (Q : List (V × V) → Hp → Prop), Rs X.K F H st → RE X.K F σ ε → qPairs l ε st Qd →
    (∀ F' H' (ps : List (Key × V)) qs st', Step F H st F' H' st' → Rs X.K F' H' st' → PR X.K F' ps qs → Qd qs st' → Q (ps.map fun kv => (kV kv.1, kv.2)) H') → tPairs trs σ H Q
theorem dps_nil {pos : Pos} : DPs X pos [] [] [] := ⟨⟨[], pps_nil, fun F σ H ε st Qd Q R E h kk => kk F H [] [] st (Step.refl _ _ _) R .nil h⟩⟩
theorem dps_cons {pos p2 : Pos} {x : Str} {j : Nat} {v : Expr} {ks : List (Option Expr)} {vs : List Expr} {t : TD} {l : List (Str × TD)} (hv : DE X v t) (hr : DPs X pos ks vs l) : DPs X pos (some (.Constant (.str x) j p2) :: ks) (v :: vs) ((x, t) :: l) := by
  obtain ⟨t1, p1, a1⟩ := hv
  obtain ⟨trs, p3, a3⟩ := hr
  refine ⟨⟨_, pps_cons pe_str p1 p3, fun F σ H ε st Qd Q R E h kk => ?_⟩⟩
  refine a1 F σ H ε st _ _ R E h fun F1 v H1 y s1 st1 R1 r q => ?_
  exact a3 F1 σ H1 ε s1 _ _ R1 (E.mono st1.ex) q fun F2 H2 ps qs s2 st2 R2 rr q2 => kk F2 H2 ((.inr x, v) :: ps) ((.inr x, y) :: qs) s2 (st1.trans st2) R2 (.cons ⟨rfl, r.mono st2.ex⟩ rr) q2
def mergeD (kvs more : List (Key × DV)) : List (Key × DV) := more.foldl (fun acc kv => putD acc kv.1 kv.2) kvs
theorem merge_rv {F : Hp} : ∀ {more : List (Key × V)} {moreD : List (Key × DV)} {kvs : List (Key × V)} {kvsD : List (Key × DV)}, PR K F more moreD → PR K F kvs kvsD → PR K F (mergeK kvs more) (mergeD kvsD moreD)
  | _, _, _, _, .nil, h => h
  | a :: _, b :: _, _, _, .cons r t, h => by
    have e := r.1
    have := merge_rv t (put_rv h a.1 r.2)
    unfold mergeK mergeD at this ⊢
    rw [List.foldl_cons, List.foldl_cons, ← e]
    exact this
def qDisp (l : List (Str × TD)) : TD := fun ε st Q => qPairs l ε st fun qs s1 => qs.length ≤ 15 ∧ ∀ p, s1 p = none → Q (.r p) (up s1 p (.dK (mergeD [] qs)))
theorem de_disp {pos : Pos} {keys : List (Option Expr)} {values : List Expr} {l : List (Str × TD)} (h : DPs X pos keys values l) (hall : keys.all (·.isSome) = true) (hl : keys.length = values.length) (h0 : keys ≠ []) (h15 : keys.length ≤ 15) : DE X (.Dict keys values pos) (qDisp l) := by
  obtain ⟨trs, p, a⟩ := h
  refine ⟨⟨_, pe_disp p hall hl h0 h15, fun F σ H ε st Qd Q R E h kk p hp => ?_⟩⟩
  obtain ⟨f0, s0⟩ := R.free hp
  obtain ⟨R', t'⟩ := R.hide (o := .dK []) hp
  refine a F σ _ ε st _ _ R' E h fun F1 H1 ps qs s1 t1 R1 rr ⟨h15', q⟩ => ?_
  obtain ⟨hp1, f1, d1⟩ := t1.hid upd_same f0 s0
  have hlen : ps.length = qs.length := Paired.length rr
  refine ⟨hp1, ps, rfl, by omega, ?_⟩
  have R2 := R1.hput (o := .dK (mergeK [] ps)) f1 d1
  have t2 : Step F H st F1 (upd H1 p (.dK (mergeK [] ps))) s1 := (t'.trans t1).hput hp
  refine kk F1 (.ref p) _ (.r p) (up s1 p (.dK (mergeD [] qs))) ⟨t2.ex, fun a u ha k => ?_, t2.fnew⟩ ⟨fun a u ha => ?_, fun a m ha => ?_⟩ (.r p) (q p d1)
  · rw [up_ne (fun z => by rw [z, hp] at ha; cases ha)]; exact t2.pres a u ha k
  · rw [up_ne (fun z => by rw [z, f1] at ha; cases ha)]; exact R2.sub a u ha
  · by_cases z : a = p
    · subst z; rw [up_same] at ha; cases ha; exact ⟨_, upd_same, merge_rv rr .nil⟩
    · rw [up_ne z] at ha; exact R2.ok a m ha
theorem mt_extendA : MtM X "list.extend" (fun x vs H Q => ∃ l b xs zs, x = .ref l ∧ vs = [.ref b] ∧ H l = some (.lst xs) ∧ (SqL X.K H b zs ∨ SqT X.K H b zs) ∧ xs.length + zs.length ≤ sizeLine ∧ Q .non (upd H l (.lst (xs ++ zs)))) := by
  intro pins s σ H x vs v us Q I rx rv h
  obtain ⟨l, b, xs, zs, rfl, rfl, hH, hB, hz, q⟩ := h
  cases rx
  obtain ⟨u, rfl, ru⟩ := rv.one
  cases ru
  obtain ⟨z, its, n, r, hl, e⟩ := I.lstM hH
  rcases hB with hB | hB
  · obtain ⟨its2, r2, ⟨⟨cls2, dd2, data2, sl2⟩, n2, ho2, hc2, hd02, hd2⟩, hs2⟩ := I.list hB
    simp only at hc2 hd02 hd2
    subst hc2 hd02 hd2
    have hl2 := r2.length
    have hsz : its.toArray.size + its2.toArray.size ≤ sizeLine := by rw [List.size_toArray, List.size_toArray]; omega
    have hlong : ¬ (!its.toArray.isEmpty && Builtin.List.listTooLong (its.toArray.size + its2.toArray.size)) = true := by
      rw [notLongL hsz, Bool.and_false]
      exact Bool.false_ne_true
    refine call_meets F.slot_list_extend ⟨_, e, rfl⟩ F.entry_list_extend (F.args_list_extend_2 _ _)
      (DLM.list_extend_gen l its.toArray n b its2.toArray n2 sl2 hlong (by rw [List.size_toArray]; omega) (by omega)) ⟨e, ho2, ?_⟩
    refine ⟨.non, _, I.lset (its' := its ++ its2) hH e (by simp) (r.append r2) ?_, rfl, q⟩
    rw [List.length_append]
    omega
  · obtain ⟨its2, r2, ⟨⟨cls2, dd2, data2, sl2⟩, ho2, hc2, n2, hd2⟩, hs2⟩ := I.tuple hB
    simp only at hc2 hd2
    subst hc2 hd2
    have hl2 := r2.length
    have hsz : its.toArray.size + its2.toArray.size ≤ sizeLine := by rw [List.size_toArray, List.size_toArray]; omega
    have hlong : ¬ (!its.toArray.isEmpty && Builtin.List.listTooLong (its.toArray.size + its2.toArray.size)) = true := by
      rw [notLongL hsz, Bool.and_false]
      exact Bool.false_ne_true
    refine call_meets F.slot_list_extend ⟨_, e, rfl⟩ F.entry_list_extend (F.args_list_extend_2 _ _)
      (DLM.list_extend_genT l its.toArray n b its2.toArray n2 dd2 sl2 hlong (by rw [List.size_toArray]; omega) (by omega)) ⟨e, ho2, ?_⟩
    refine ⟨.non, _, I.lset (its' := its ++ its2) hH e (by simp) (r.append r2) ?_, rfl, q⟩
    rw [List.length_append]
    omega
/-- xs.append(e), xs.extend(e) as a statement's expression -/
def qAppend (to te : TD) : TD := fun ε st Q => to ε st fun x s1 => match x with
  | .r a => (∃ xs, s1 a = some (.lst xs)) ∧ te ε s1 fun y s2 => ∃ xs, s2 a = some (.lst xs) ∧ xs.length < sizeLine ∧ Q (.d .none) (up s2 a (.lst (xs ++ [y])))
  | _ => False
theorem de_append {o e : Expr} {to te : TD} {apos cpos : Pos} (ho : DE X o to) (he : DE X e te) (hbase : attributeBase o "append" X.env (eval o X.env) = eval o X.env := by rfl)
    (hfew : ((backTo cpos (starEach [e] X.env)).all (fun x => !x.1) && (backToKw cpos (keywordEach [] X.env)).all (fun x => x.1.isSome)
      && decide ([e].length + ([] : List Keyword).length + (if ([] : List Keyword).isEmpty then 0 else 1) < 30)) = true := by rfl)
    (hline : (apos.endLine == cpos.line) = true := by rfl) (hs : starEach [e] X.env = (false, eval e X.env) :: starEach [] X.env := by rfl) : DE X (.Call (.Attribute o "append" apos) [e] [] cpos) (qAppend to te) := by
  obtain ⟨t1, p1, a1⟩ := ho
  obtain ⟨t2, p2, a2⟩ := he
  refine ⟨⟨_, pe_bm PySem.F.plainAttrs_list PySem.F.slot_list_append PySem.F.type_list_append mt_append p1 (pa_cons p2 pa_nil hs) hbase hfew hline hs rfl, fun F σ H ε st Qd Q R E h kk => ?_⟩⟩
  refine a1 F σ H ε st _ _ R E h fun F1 v H1 x s1 st1 R1 r q => ?_
  split at q
  · cases r
    obtain ⟨⟨xs0, e0⟩, q⟩ := q
    obtain ⟨vs0, hv0, _⟩ := R1.ok _ _ e0
    refine ⟨Or.inl ⟨rfl, _, SqL.of hv0⟩, a2 F1 σ H1 ε s1 _ _ R1 (E.mono st1.ex) q fun F2 u H2 y s2 st2 R2 r2 ⟨xs, ex, hl, q⟩ => ?_⟩
    obtain ⟨vs, hv, s⟩ := R2.ok _ _ ex
    have hlen := s.length
    obtain ⟨R3, t3⟩ := R2.put (o := .lst (vs ++ [u])) (m := .lst (xs ++ [y])) ex ⟨_, upd_same, s.append (.cons r2 .nil)⟩
    exact ⟨_, vs, u, rfl, rfl, hv, by omega, kk F2 _ _ (.d .none) _ ((st1.trans st2).trans t3) R3 (.d .non) q⟩
  · exact q.elim
def qExtend (to te : TD) : TD := fun ε st Q => to ε st fun x s1 => match x with
  | .r a => (∃ xs, s1 a = some (.lst xs)) ∧ te ε s1 fun y s2 => ∃ xs ys, s2 a = some (.lst xs) ∧ sitems s2 y = some ys ∧ xs.length + ys.length ≤ sizeLine ∧ Q (.d .none) (up s2 a (.lst (xs ++ ys)))
  | _ => False
theorem de_extend {o e : Expr} {to te : TD} {apos cpos : Pos} (ho : DE X o to) (he : DE X e te) (hbase : attributeBase o "extend" X.env (eval o X.env) = eval o X.env := by rfl)
    (hfew : ((backTo cpos (starEach [e] X.env)).all (fun x => !x.1) && (backToKw cpos (keywordEach [] X.env)).all (fun x => x.1.isSome)
      && decide ([e].length + ([] : List Keyword).length + (if ([] : List Keyword).isEmpty then 0 else 1) < 30)) = true := by rfl)
    (hline : (apos.endLine == cpos.line) = true := by rfl) (hs : starEach [e] X.env = (false, eval e X.env) :: starEach [] X.env := by rfl) : DE X (.Call (.Attribute o "extend" apos) [e] [] cpos) (qExtend to te) := by
  obtain ⟨t1, p1, a1⟩ := ho
  obtain ⟨t2, p2, a2⟩ := he
  refine ⟨⟨_, pe_bm PySem.F.plainAttrs_list PySem.F.slot_list_extend PySem.F.type_list_extend mt_extendA p1 (pa_cons p2 pa_nil hs) hbase hfew hline hs rfl, fun F σ H ε st Qd Q R E h kk => ?_⟩⟩
  refine a1 F σ H ε st _ _ R E h fun F1 v H1 x s1 st1 R1 r q => ?_
  split at q
  · cases r
    obtain ⟨⟨xs0, e0⟩, q⟩ := q
    obtain ⟨vs0, hv0, _⟩ := R1.ok _ _ e0
    refine ⟨Or.inl ⟨rfl, _, SqL.of hv0⟩, a2 F1 σ H1 ε s1 _ _ R1 (E.mono st1.ex) q fun F2 u H2 y s2 st2 R2 r2 ⟨xs, ys, ex, ey, hl, q⟩ => ?_⟩
    obtain ⟨vs, hv, s⟩ := R2.ok _ _ ex
    obtain ⟨b, ws, rfl, hq, s2'⟩ := sitems_rv R2 r2 ey
    have hlen := s.length
    have hlen2 := s2'.length
    obtain ⟨R3, t3⟩ := R2.put (o := .lst (vs ++ ws)) (m := .lst (xs ++ ys)) ex ⟨_, upd_same, s.append s2'⟩
    exact ⟨_, b, vs, ws, rfl, rfl, hv, hq, by omega, kk F2 _ _ (.d .none) _ ((st1.trans st2).trans t3) R3 (.d .non) q⟩
  · exact q.elim
end
end DL
end
section
set_option Elab.async false
set_option linter.all false
set_option maxRecDepth 100000
set_option maxHeartbeats 4000000
namespace DL
open PySem L2 PyProof.Rows
theorem bb_len : bootBuiltins "len" = some (.builtin "len") := by decide +kernel
theorem bb_sum : bootBuiltins "sum" = some (.builtin "sum") := by decide +kernel
theorem bb_max : bootBuiltins "max" = some (.builtin "max") := by decide +kernel
theorem bb_any : bootBuiltins "any" = some (.builtin "any") := by decide +kernel
theorem bb_all : bootBuiltins "all" = some (.builtin "all") := by decide +kernel
theorem bb_sorted : bootBuiltins "sorted" = some (.builtin "sorted") := by decide +kernel
theorem bt_tuple : bootBuiltins "tuple" = some (.type "tuple") := by decide +kernel
theorem bt_list : bootBuiltins "list" = some (.type "list") := by decide +kernel
theorem bt_int : bootBuiltins "int" = some (.type "int") := by decide +kernel
theorem bt_set : bootBuiltins "set" = some (.type "set") := by decide +kernel
section
variable {P : Program} {w : World} {K : PySem.W.Frag} {mg : Str → Option Value} {base : Heap} {X : Cx} {N : List Str} {sc fs : Scope} {k : Nat}
/-- a def of the text that keeps a promise -/
def Cl (P : Program) (w : World) (K : PySem.W.Frag) (mg : Str → Option Value) (base : Heap) (x : Str) (j : Nat) (sp : SpD) : Prop :=
  ∃ (f : Addr) (fd : FuncData) (ps : List Str), mg x = some (.ref f) ∧ PySem.W.keepIn K (.ref f) = true ∧ FnOk P w K mg base CX0 j f fd ps (hsp K sp) ∧ Binds K fd ps []
theorem de_callC {x : Str} {e : Expr} {es : List Expr} {ta : TDa} {p pos : Pos} {sp : SpD} {j : Nat} (c : Cok P w K mg base X N sc fs k) (hg : glB sc x = true) (C : Cl P w K mg base x j sp) (hj : j ≤ k)
    (ha : DA X (e :: es) ta) (he : starEach (e :: es) X.env = (false, eval e X.env) :: starEach es X.env := by rfl) (hpl : (backTo pos (starEach es X.env)).any (·.1) = false := by rfl) : DE X (.Call (.Name x p) (e :: es) [] pos) (qCall sp ta) := by
  obtain ⟨f, fd, ps, hm, hk, G, b⟩ := C
  exact de_call c hg hm hk G hj b ha he hpl
theorem de_gint {x : Str} {i : Int} {pos : Pos} (c : Cok P w K mg base X N sc fs k) (hg : glB sc x = true) (hm : ∃ t, mg x = some (.int i t)) : DE X (.Name x pos) (qc (.d (.int i))) := by
  obtain ⟨t, hm⟩ := hm
  have g := gl_of c hg
  exact ⟨⟨_, pe_glob g.1 (by rw [c.hmg]; exact hm) (v := .int i) ⟨t, rfl⟩ g.2.2, fun F σ H ε st Qd Q R E q kk => kk.at R (.d (.int i)) q⟩⟩
theorem Cok.hu65 (c : Cok P w K mg base X N sc fs k) : X.A.units + 64 < cLine := c.hu64
theorem rp_all : ∀ {F : Hp} (ns : List Int), RpAll K F (ns.map V.int) (ns.map .int)
  | _, [] => .nil
  | _, n :: ns => .cons (.int n) (rp_all ns)
/-- the law's entry -/
theorem law_start {sp : SpD} {n : Nat} (h : ∀ ns : List Int, ns.length ≤ n → sp [.d (.list (ns.map .int))] (fun _ => none) (fun x _ => x = .d (.bool true))) {H : Hp} {a : Addr} {ns : List Int} {E : XK} (hl : ns.length ≤ n) (hb : Only H) (hS : SqL K H a (ns.map V.int)) : hsp K sp [.ref a] H (fun v _ => v = .bl true) E :=
  ⟨H, fun _ => none, _, _, ⟨fun _ _ e => ⟨e, rfl⟩, fun _ _ e => nomatch e⟩, .cons (.d (.lst hS (rp_all ns))) .nil, h ns hl, fun F v H' x st' _ _ r q => by subst q; exact rv_bool r⟩
/-- [f x for x in xs if p x], nothing of the store touched -/
theorem comp_fm {inv : Sto → Prop} {g : TDg} {tt : TDt} {te : TD} {ε : Env} {Kc : List DV → Sto → Prop} {st : Sto} (p : DV → Bool) (f : DV → DV) (hi : inv st) : ∀ (xs acc : List DV),
    (∀ x ∈ xs, ∀ (Q1 : DV → Sto → Prop) (Q2 : Sto → Prop), (if p x = true then Q1 (f x) st else Q2 st) → g x ε st fun ε1 s1 => tt ε1 s1 fun b s2 => if b = true then te ε1 s2 Q1 else Q2 s2) → Kc (acc ++ (xs.filter p).map f) st → qComp inv g tt te ε Kc xs acc st
  | [], acc, _, h => ⟨hi, by rw [List.filter_nil, List.map_nil, List.append_nil] at h; exact h⟩
  | x :: xs, acc, hx, h => by
    refine ⟨hi, ?_⟩
    refine hx x List.mem_cons_self (fun y s3 => qComp inv g tt te ε Kc xs (acc ++ [y]) s3) (fun s2 => qComp inv g tt te ε Kc xs acc s2) ?_
    cases e : p x with
    | true =>
      rw [if_pos rfl]
      refine comp_fm p f hi xs (acc ++ [f x]) (fun y hy => hx y (List.mem_cons_of_mem _ hy)) ?_
      rw [List.filter_cons, if_pos e, List.map_cons] at h
      rw [List.append_assoc]
      exact h
    | false =>
      rw [if_neg Bool.false_ne_true]
      refine comp_fm p f hi xs acc (fun y hy => hx y (List.mem_cons_of_mem _ hy)) ?_
      rw [List.filter_cons, if_neg (by rw [e]; exact Bool.false_ne_true)] at h
      exact h
theorem seq {t u : TDs} {D : EndsD} {ε : Env} {st : Sto} (h : ∀ N : Env → Sto → Prop, (∀ ε s, u D ε s → N ε s) → t { D with nx := N } ε st) : qSeq t u D ε st := h _ fun _ _ x => x
/-- a for, its items known -/
theorem for_by {inv : Sto → Prop} {g : TDg} {tb : TDs} {D : EndsD} {xs : List DV} {ε : Env} {st : Sto} (W : List DV → Env → Sto → Prop) (h0 : W xs ε st) (hi : ∀ ys ε st, W ys ε st → inv st)
    (hs : ∀ x ys ε st, x ∈ xs → W (x :: ys) ε st → ∀ L : Env → Sto → Prop, (∀ ε' st', W ys ε' st' → L ε' st') → g x ε st fun ε1 s1 => tb { D with nx := L, ct := L, bk := D.nx } ε1 s1) (hd : ∀ ε st, W [] ε st → D.nx ε st) : qLoop inv g tb D xs ε st := by
  have : ∀ ys ε st, (∀ y ∈ ys, y ∈ xs) → W ys ε st → qLoop inv g tb D ys ε st := by
    intro ys
    induction ys with
    | nil => exact fun ε st _ h => ⟨hi _ _ _ h, hd _ _ h⟩
    | cons y ys ih => exact fun ε st hy h => ⟨hi _ _ _ h, hs y ys ε st (hy y List.mem_cons_self) h _ fun ε' st' => ih ε' st' fun z hz => hy z (List.mem_cons_of_mem _ hz)⟩
  exact this xs ε st (fun _ z => z) h0
end
end DL
end
section
set_option Elab.async false
set_option linter.all false
set_option maxRecDepth 100000
set_option maxHeartbeats 4000000
namespace DL
open PySem L2 PyProof.Rows
def lexL : List Int → List Int → Bool
  | [], [] => false
  | [], _ :: _ => true
  | _ :: _, [] => false
  | x :: xs, y :: ys => decide (x < y) || (decide (x = y) && lexL xs ys)
theorem lexL_irr : ∀ x : List Int, lexL x x = false
  | [] => rfl
  | x :: xs => by simp [lexL, lexL_irr xs]
theorem lexL_tr : ∀ {x y z : List Int}, lexL x y = true → lexL y z = true → lexL x z = true
  | [], [], _, h, _ => by cases h
  | [], _ :: _, [], _, h => by cases h
  | [], _ :: _, _ :: _, _, _ => rfl
  | _ :: _, [], _, h, _ => by cases h
  | _ :: _, _ :: _, [], _, h => by cases h
  | x :: xs, y :: ys, z :: zs, h1, h2 => by
    simp only [lexL, Bool.or_eq_true, Bool.and_eq_true, decide_eq_true_eq] at h1 h2 ⊢
    rcases h1 with h1 | ⟨h1, h3⟩ <;> rcases h2 with h2 | ⟨h2, h4⟩
    · exact .inl (by omega)
    · exact .inl (by omega)
    · exact .inl (by omega)
    · exact .inr ⟨by omega, lexL_tr h3 h4⟩
theorem lexL_tri : ∀ (x y : List Int), lexL x y = true ∨ x = y ∨ lexL y x = true
  | [], [] => .inr (.inl rfl)
  | [], _ :: _ => .inl rfl
  | _ :: _, [] => .inr (.inr rfl)
  | x :: xs, y :: ys => by
    simp only [lexL, Bool.or_eq_true, Bool.and_eq_true, decide_eq_true_eq, List.cons.injEq]
    rcases Int.lt_trichotomy x y with h | h | h
    · exact .inl (.inl h)
    · rcases lexL_tri xs ys with k | k | k
      · exact .inl (.inr ⟨h, k⟩)
      · exact .inr (.inl ⟨h, k⟩)
      · exact .inr (.inr (.inr ⟨h.symm, k⟩))
    · exact .inr (.inr (.inl h))
/-- strictly rising -/
abbrev RisL (l : List (List Int)) : Prop := l.Pairwise fun x y => lexL x y = true
def insU (x : List Int) : List (List Int) → List (List Int)
  | [] => [x]
  | y :: l => if x = y then y :: l else if lexL x y = true then x :: y :: l else y :: insU x l
def sortU (l : List (List Int)) : List (List Int) := l.foldr insU []
theorem mem_insU {x z : List Int} : ∀ {l : List (List Int)}, z ∈ insU x l ↔ z = x ∨ z ∈ l
  | [] => by simp [insU]
  | y :: l => by
    unfold insU
    split
    · rename_i h
      subst h
      simp
    · split
      · simp
      · simp only [List.mem_cons, mem_insU (l := l)]
        constructor
        · rintro (h | h | h)
          · exact .inr (.inl h)
          · exact .inl h
          · exact .inr (.inr h)
        · rintro (h | h | h)
          · exact .inr (.inl h)
          · exact .inl h
          · exact .inr (.inr h)
theorem ris_insU {x : List Int} : ∀ {l : List (List Int)}, RisL l → RisL (insU x l)
  | [], _ => List.pairwise_singleton _ _
  | y :: l, h => by
    obtain ⟨h1, h2⟩ := List.pairwise_cons.mp h
    unfold insU
    split
    · exact h
    · rename_i hne
      split
      · rename_i hl
        refine List.pairwise_cons.mpr ⟨fun z hz => ?_, h⟩
        rcases List.mem_cons.mp hz with rfl | hz
        · exact hl
        · exact lexL_tr hl (h1 z hz)
      · rename_i hl
        refine List.pairwise_cons.mpr ⟨fun z hz => ?_, ris_insU h2⟩
        rcases mem_insU.mp hz with rfl | hz
        · rcases lexL_tri z y with k | k | k
          · exact absurd k hl
          · exact absurd k hne
          · exact k
        · exact h1 z hz
theorem mem_sortU {z : List Int} : ∀ {l : List (List Int)}, z ∈ sortU l ↔ z ∈ l
  | [] => Iff.rfl
  | x :: l => by
    show z ∈ insU x (sortU l) ↔ _
    rw [mem_insU, mem_sortU (l := l), List.mem_cons]
theorem ris_sortU : ∀ (l : List (List Int)), RisL (sortU l)
  | [] => List.Pairwise.nil
  | x :: l => ris_insU (ris_sortU l)
theorem ris_eq : ∀ {l m : List (List Int)}, RisL l → RisL m → (∀ x, x ∈ l ↔ x ∈ m) → l = m
  | [], [], _, _, _ => rfl
  | [], y :: m, _, _, h => absurd ((h y).mpr List.mem_cons_self) (by simp)
  | x :: l, [], _, _, h => absurd ((h x).mp List.mem_cons_self) (by simp)
  | x :: l, y :: m, hl, hm, h => by
    obtain ⟨l1, l2⟩ := List.pairwise_cons.mp hl
    obtain ⟨m1, m2⟩ := List.pairwise_cons.mp hm
    have e : x = y := by
      rcases List.mem_cons.mp ((h x).mp List.mem_cons_self) with e | hx
      · exact e
      · rcases List.mem_cons.mp ((h y).mpr List.mem_cons_self) with e | hy
        · exact e.symm
        · have := lexL_tr (l1 y hy) (m1 x hx)
          rw [lexL_irr] at this
          cases this
    subst e
    refine congrArg (x :: ·) (ris_eq l2 m2 fun z => ?_)
    constructor
    · intro hz
      rcases List.mem_cons.mp ((h z).mp (List.mem_cons_of_mem _ hz)) with e | hz'
      · subst e
        have := l1 z hz
        rw [lexL_irr] at this
        cases this
      · exact hz'
    · intro hz
      rcases List.mem_cons.mp ((h z).mpr (List.mem_cons_of_mem _ hz)) with e | hz'
      · subst e
        have := m1 z hz
        rw [lexL_irr] at this
        cases this
      · exact hz'
theorem sortU_eq {l m : List (List Int)} (hm : RisL m) (h : ∀ x, x ∈ l ↔ x ∈ m) : sortU l = m := ris_eq (ris_sortU l) hm fun x => mem_sortU.trans (h x)
theorem sortU_len : ∀ (l : List (List Int)), (sortU l).length ≤ l.length := by
  have : ∀ (x : List Int) (l : List (List Int)), (insU x l).length ≤ l.length + 1 := by
    intro x l
    induction l with
    | nil => simp [insU]
    | cons y l ih =>
      unfold insU
      split
      · simp
      · split
        · simp
        · simp; omega
  intro l
  induction l with
  | nil => exact Nat.le_refl _
  | cons x l ih =>
    have := this x (sortU l)
    show (insU x (sortU l)).length ≤ _
    rw [List.length_cons]
    omega
def tints : List DV → Option (List (List Int))
  | [] => some []
  | .d (.tuple xs) :: r => (match dints (xs.map .d) with | some a => (tints r).map (a :: ·) | none => none)
  | _ :: _ => none
theorem tints_map : ∀ l : List (List Int), tints ((l.map fun a => PyData.tuple (a.map .int)).map .d) = some l
  | [] => rfl
  | a :: l => by
    have e : dints ((a.map PyData.int).map DV.d) = some a := by rw [List.map_map]; exact dints_map a
    rw [List.map_cons, List.map_cons, tints, e, tints_map l]
    rfl
section
variable {P : Program} {w : World} {K : PySem.W.Frag} {mg : Str → Option Value} {base : Heap} {X : Cx} {N : List Str} {sc fs : Scope} {k : Nat}
theorem tints_rvs {F : Hp} : ∀ {vs : List V} {xs : List DV} {ts : List (List Int)}, RVs K F vs xs → tints xs = some ts → ∃ ks : List (Addr × List Int), vs = ks.map (fun p => V.ref p.1) ∧ ts = ks.map (·.2) ∧ ∀ p ∈ ks, F p.1 = some (.tup (p.2.map V.int))
  | _, [], ts, r, h => by cases h; cases r; exact ⟨[], rfl, rfl, fun p hp => nomatch hp⟩
  | v :: vs, .d (.tuple ds) :: xs, ts, .cons r q, h => by
    unfold tints at h
    split at h
    · rename_i a ea
      cases e : tints xs with
      | none => rw [e] at h; cases h
      | some l =>
        rw [e] at h
        cases h
        obtain ⟨ks, h1, h2, h3⟩ := tints_rvs q e
        cases r with
        | d r =>
          cases r with
          | tup q2 s2 =>
            rename_i p ws
            obtain ⟨e1, _⟩ := dints_rvs s2.rvs ea
            subst e1
            refine ⟨(p, a) :: ks, by rw [h1]; rfl, by rw [h2]; rfl, fun z hz => ?_⟩
            rcases List.mem_cons.mp hz with e | hz
            · rw [e]; exact q2
            · exact h3 z hz
    · cases h
  | _, .d .none :: _, _, _, h => by cases h
  | _, .d (.bool _) :: _, _, _, h => by cases h
  | _, .d (.int _) :: _, _, _, h => by cases h
  | _, .d (.str _) :: _, _, _, h => by cases h
  | _, .d (.list _) :: _, _, _, h => by cases h
  | _, .d (.dict _) :: _, _, _, h => by cases h
  | _, .r _ :: _, _, _, h => by cases h
  | _, .t _ :: _, _, _, h => by cases h
end
end DL
end
section
set_option Elab.async false
set_option linter.all false
set_option maxRecDepth 100000
set_option maxHeartbeats 4000000
namespace DL
open PySem L2 PyProof.Rows
section
variable {P : Program} {w : World} {K : PySem.W.Frag} {mg : Str → Option Value} {base : Heap} {X : Cx} {N : List Str} {sc fs : Scope} {k : Nat}
theorem readsAll_of {h : Heap} : ∀ {vs : List Value} {ns : List Int}, IntsAre vs ns → ReadsAll h vs (ns.map .int) []
  | _, _, .nil => .nil
  | _, _, .cons n t r => .cons (.int n t) (readsAll_of r)
theorem dep_ints : ∀ ns : List Int, PyData.depthAll (ns.map PyData.int) = 0
  | [] => rfl
  | n :: ns => by
    simp only [List.map_cons, PyData.depthAll, PyData.depth, dep_ints ns]
    rfl
def qMax1 : RLD := fun xs st Q => match xs with
  | [x] => (match (sitems st x).bind dints with | some (n :: ns) => Q (.d (.int (ns.foldl max n))) st | _ => False)
  | _ => False
def qMin1 : RLD := fun xs st Q => match xs with
  | [x] => (match (sitems st x).bind dints with | some (n :: ns) => Q (.d (.int (ns.foldl min n))) st | _ => False)
  | _ => False
end
end DL
end
section
set_option Elab.async false
set_option linter.all false
set_option maxRecDepth 100000
set_option maxHeartbeats 4000000
namespace DL
open PySem L2 PyProof.Rows
section
variable {P : Program} {w : World} {K : PySem.W.Frag} {mg : Str → Option Value} {base : Heap} {X : Cx} {N : List Str} {sc fs : Scope} {k : Nat}
/-- [e for x in a if .. for y in b if ..] -/
def qCompO (inv : Sto → Prop) (g : TDg) (tt : TDt) (ti1 : TDi) (g1 : TDg) (tt1 : TDt) (te : TD) (vs1 : List Nat) (ε : Env) (Kc : List DV → Sto → Prop) : List DV → List DV → Sto → Prop
  | [], acc, st => inv st ∧ Kc acc st
  | x :: r, acc, st => inv st ∧ g x ε st fun ε1 s1 => tt ε1 s1 fun b s2 => if b = true then ti1 ε1 s2 fun items1 inv1 s3 => acc.length + items1.length ≤ sizeLine ∧ qComp inv1 g1 tt1 te (wipeD ε1 vs1) (fun acc' s4 => qCompO inv g tt ti1 g1 tt1 te vs1 ε Kc r acc' s4) items1 acc s3
      else qCompO inv g tt ti1 g1 tt1 te vs1 ε Kc r acc s2
def qLc2 (m : Bool) (ti : TDi) (g : TDg) (tt : TDt) (ti1 : TDi) (g1 : TDg) (tt1 : TDt) (te : TD) (vs vs1 : List Nat) : TD := fun ε st Q => ti ε st fun items inv s1 => qCompO inv g tt ti1 g1 tt1 te vs1 (wipeD ε vs) (fun acc s2 => newL m acc s2 Q) items [] s1
end
end DL
end
section
set_option Elab.async false
set_option linter.all false
set_option maxRecDepth 100000
set_option maxHeartbeats 4000000
namespace DL
open PySem L2 PyProof.Rows
section
variable {P : Program} {w : World} {K : PySem.W.Frag} {mg : Str → Option Value} {base : Heap} {X : Cx} {N : List Str} {sc fs : Scope} {k : Nat}
def qComb : RLD := fun xs st Q => match xs with
  | [.d (.int a), .d (.int b)] => 0 ≤ a ∧ 0 ≤ b ∧ a < 2 ^ 64 ∧ (b ≤ 9000 ∨ a ≤ 18000) ∧ Q (.d (.int (PySem.W.mcComb a b))) st
  | _ => False
def qGcd : RLD := fun xs st Q => match xs with
  | [.d (.int a), .d (.int b)] => Q (.d (.int ((Nat.gcd a.natAbs b.natAbs : Nat) : Int))) st
  | _ => False
end
end DL
end
section
set_option Elab.async false
set_option linter.all false
set_option maxRecDepth 100000
set_option maxHeartbeats 4000000
namespace DL
open PySem PySem.Spec L2 PyProof.Rows
section
variable {P : Program} {w : World} {K : PySem.W.Frag} {mg : Str → Option Value} {base : Heap} {X : Cx} {N : List Str} {sc fs : Scope} {k : Nat}
/-- list(range(e)) -/
def qListRg (m : Bool) (te : TD) : TD := fun ε st Q => te ε st fun x s1 => match x with
  | .d (.int n) => 0 ≤ n ∧ n ≤ 16777216 ∧ newL m (rngD 0 n.toNat) s1 Q
  | _ => False
theorem rg_rvs {F : Hp} (n : Int) : RVs K F (rgV 0 n) (rngD 0 n.toNat) := by
  unfold rgV rngD
  rw [Int.sub_zero]
  induction (List.range n.toNat) with
  | nil => exact .nil
  | cons i l ih => exact .cons (.d (.int _)) ih
theorem de_listRg {e : Expr} {te : TD} {p p2 pos pos2 : Pos} (m : Bool) (c : Cok P w K mg base X N sc fs k) (hg : glB sc "list" = true) (hm : mg "list" = none) (hg2 : glB sc "range" = true) (hm2 : mg "range" = none) (ha : DE X e te)
    (he : starEach [e] X.env = [(false, eval e X.env)] := by rfl) : DE X (.Call (.Name "list" p) [.Call (.Name "range" p2) [e] [] pos2] [] pos) (qListRg m te) := by
  obtain ⟨t1, p1, a1⟩ := ha
  have g := gl_of c hg
  have g2 := gl_of c hg2
  refine ⟨⟨_, pe_listRg c.calm g.1 (by rw [c.hmg]; exact hm) (prg_1 g2.1 (by rw [c.hmg]; exact hm2) p1 he) rfl, fun F σ H ε st Qd Q R E h kk => ?_⟩⟩
  refine a1.go (W := fun x H1 => _) R E h kk fun F1 H1 s1 v y R1 E1 rv q kk => ?_
  split at q
  · rename_i n
    cases rv_int rv
    obtain ⟨h1, h2, q⟩ := q
    exact ⟨n, rfl, RgOk.of_le (by omega) (by omega) (by omega) h1, fun pp hp => new_lst R1 (rg_rvs n) hp q kk⟩
  · exact q.elim
end
end DL
end
section
set_option Elab.async false
set_option linter.all false
set_option maxRecDepth 100000
set_option maxHeartbeats 4000000
namespace BS
open PySem L2
/-- the masks that come -/
def MaskB (m : Nat) : Prop := m = 7 ∨ m = 31 ∨ m = 127 ∨ m = 511 ∨ m = 2047 ∨ m = 8191
/-- the slots that n steps from i meet, as bits -/
def bitsOf (m : Nat) : Nat → Nat → Nat → Nat
  | 0, _, acc => acc
  | n + 1, i, acc => bitsOf m n ((i * 5 + 1) % (m + 1)) (acc ||| (1 <<< i))
theorem bitsOf_spec (m : Nat) : ∀ (n a acc j : Nat), (bitsOf m n (lcgN m a) acc).testBit j = true → acc.testBit j = true ∨ ∃ b, b < n ∧ lcgN m (a + b) = j
  | 0, _, _, _, h => .inl h
  | n + 1, a, acc, j, h => by
    rcases bitsOf_spec m n (a + 1) _ j h with h | ⟨b, hb, e⟩
    · rw [Nat.testBit_or, Bool.or_eq_true] at h
      rcases h with h | h
      · exact .inl h
      · refine .inr ⟨0, Nat.zero_lt_succ _, ?_⟩
        rw [Nat.shiftLeft_eq, Nat.one_mul, Nat.testBit_two_pow] at h
        exact of_decide_eq_true h
    · exact .inr ⟨b + 1, by omega, by rw [show a + (b + 1) = a + 1 + b by omega]; exact e⟩
theorem met {m : Nat} (h : bitsOf m (m + 1) 0 0 = 2 ^ (m + 1) - 1) {j : Nat} (hj : j ≤ m) : ∃ b, b ≤ m ∧ lcgN m b = j := by
  have e : (bitsOf m (m + 1) (lcgN m 0) 0).testBit j = true := by
    show (bitsOf m (m + 1) 0 0).testBit j = true
    rw [h, Nat.testBit_two_pow_sub_one]
    exact decide_eq_true (by omega)
  rcases bitsOf_spec m (m + 1) 0 0 j e with h | ⟨b, hb, e⟩
  · rw [Nat.zero_testBit] at h
    cases h
  · exact ⟨b, by omega, by rw [← e, Nat.zero_add]⟩
theorem all7 : bitsOf 7 8 0 0 = 2 ^ 8 - 1 := by decide +kernel
theorem all31 : bitsOf 31 32 0 0 = 2 ^ 32 - 1 := by decide +kernel
theorem all127 : bitsOf 127 128 0 0 = 2 ^ 128 - 1 := by decide +kernel
theorem all511 : bitsOf 511 512 0 0 = 2 ^ 512 - 1 := by decide +kernel
theorem all2047 : bitsOf 2047 2048 0 0 = 2 ^ 2048 - 1 := by decide +kernel
theorem all8191 : bitsOf 8191 8192 0 0 = 2 ^ 8192 - 1 := by decide +kernel
theorem lcg_met {m : Nat} (hm : MaskB m) {j : Nat} (hj : j ≤ m) : ∃ b, b ≤ m ∧ lcgN m b = j := by
  rcases hm with rfl | rfl | rfl | rfl | rfl | rfl
  · exact met all7 hj
  · exact met all31 hj
  · exact met all127 hj
  · exact met all511 hj
  · exact met all2047 hj
  · exact met all8191 hj
/-- the last step of a round, without the steps -/
def lastOf (m : Nat) : Nat → Nat → Nat
  | 0, i => i
  | n + 1, i => lastOf m n ((i * 5 + 1) % (m + 1))
theorem lastOf_spec (m : Nat) : ∀ (n a : Nat), lastOf m n (lcgN m a) = lcgN m (a + n)
  | 0, _ => rfl
  | n + 1, a => by
    have := lastOf_spec m n (a + 1)
    rw [show a + (n + 1) = a + 1 + n by omega]
    exact this
theorem round7 : lastOf 7 8 0 = 0 := by decide +kernel
theorem round31 : lastOf 31 32 0 = 0 := by decide +kernel
theorem round127 : lastOf 127 128 0 = 0 := by decide +kernel
theorem round511 : lastOf 511 512 0 = 0 := by decide +kernel
theorem round2047 : lastOf 2047 2048 0 = 0 := by decide +kernel
theorem round8191 : lastOf 8191 8192 0 = 0 := by decide +kernel
theorem lcg_again {m : Nat} (hm : MaskB m) : lcgN m (m + 1) = 0 := by
  have key : ∀ m, lastOf m (m + 1) 0 = 0 → lcgN m (m + 1) = 0 := fun m h => by
    have := lastOf_spec m (m + 1) 0
    rw [Nat.zero_add] at this
    rw [← this]
    exact h
  rcases hm with rfl | rfl | rfl | rfl | rfl | rfl
  · exact key _ round7
  · exact key _ round31
  · exact key _ round127
  · exact key _ round511
  · exact key _ round2047
  · exact key _ round8191
theorem lcg_per {m : Nat} (hm : MaskB m) (k : Nat) : lcgN m (m + 1 + k) = lcgN m k := by
  induction k with
  | zero => exact lcg_again hm
  | succ k ih =>
    show (lcgN m (m + 1 + k) * 5 + 1) % (m + 1) = _
    rw [ih]
    rfl
/-- each slot begins a run early enough -/
theorem run_met {m : Nat} (hm : MaskB m) (h : Int) {j : Nat} (hj : j ≤ m) : ∃ n, n ≤ m + 12 ∧ runI m (SetTable.bits h) n = j := by
  obtain ⟨a, ha, ea⟩ := lcg_met hm (runI_le m (SetTable.bits h) 12)
  obtain ⟨b, hb, eb⟩ := lcg_met hm hj
  have step : ∀ k, runI m (SetTable.bits h) (12 + k) = lcgN m (a + k) := fun k => by rw [runI_tail (bits_lt h), ← ea, lcgN_add]
  by_cases c : b < a
  · refine ⟨12 + (b + (m + 1) - a), by omega, ?_⟩
    rw [step, show a + (b + (m + 1) - a) = m + 1 + b by omega, lcg_per hm, eb]
  · refine ⟨12 + (b - a), by omega, ?_⟩
    rw [step, show a + (b - a) = b by omega, eb]
theorem way_met {m : Nat} (hm : MaskB m) (h : Int) {j : Nat} (hj : j ≤ m) : ∃ k, k < 10 * SetTable.turns m ∧ way m h k = j := by
  obtain ⟨n, hn, e⟩ := run_met hm h hj
  obtain ⟨k, hk, e2⟩ := run_nth m (SetTable.bits h) n
  refine ⟨k, by unfold SetTable.turns; omega, ?_⟩
  show (nth m (runAt m (SetTable.bits h % (m + 1)) (SetTable.bits h)) k).j = j
  rw [e2]
  exact e
theorem way_in (m : Nat) (h : Int) (k : Nat) : way m h k ≤ m := by
  have hi : SetTable.bits h % (m + 1) ≤ m := Nat.le_of_lt_succ (Nat.mod_lt _ (Nat.succ_pos _))
  have r := runEnd_bd hi
  have q := nth_in (m := m) k (runAt m (SetTable.bits h % (m + 1)) (SetTable.bits h)) (show SetTable.bits h % (m + 1) + (SetTable.runEnd m (SetTable.bits h % (m + 1)) - SetTable.bits h % (m + 1)) ≤ m by omega)
  show (nth m (runAt m (SetTable.bits h % (m + 1)) (SetTable.bits h)) k).j ≤ m
  omega
theorem odd {m : Nat} (h : MaskB m) : m % 2 = 1 := by
  rcases h with rfl | rfl | rfl | rfl | rfl | rfl <;> rfl
theorem turns_le {m : Nat} (h : MaskB m) : 10 * SetTable.turns m < 100000 := by
  unfold SetTable.turns
  rcases h with rfl | rfl | rfl | rfl | rfl | rfl <;> decide
end BS
end
section
set_option Elab.async false
set_option linter.all false
set_option maxRecDepth 100000
set_option maxHeartbeats 4000000
namespace BS
open PySem L2
/-- a table in which each hash is met on its way ahead of any empty slot -/
structure Tb (t : SetTable) (hs : List Int) : Prop where
  ris : L2.Ris t.place.toList
  dm : t.dummies = #[]
  sz : t.place.toList.length = hs.length
  mok : MaskB t.mask
  bd : ∀ x ∈ t.place.toList, x ≤ t.mask
  reach : ∀ (i : Nat) (h : Int) (j : Nat), hs[i]? = some h → t.place.toList[i]? = some j → ∃ k, way t.mask h k = j ∧ ∀ k', k' < k → way t.mask h k' ∈ t.place.toList
theorem Tb.first {t : SetTable} {hs : List Int} (T : Tb t hs) (hl : hs.length ≤ t.mask) (h : Int) : ∃ K, K < 10 * SetTable.turns t.mask ∧ way t.mask h K ∉ t.place.toList ∧ ∀ k, k < K → way t.mask h k ∈ t.place.toList := by
  obtain ⟨j, hj, hn⟩ := st_missing t.place.toList (t.mask + 1) (by rw [T.sz]; omega)
  obtain ⟨k, hk, rfl⟩ := way_met T.mok h (j := j) (by omega)
  obtain ⟨K, h1, h2, h3⟩ := st_least (p := fun k => way t.mask h k ∉ t.place.toList) k hn
  exact ⟨K, by omega, h2, fun k' hk' => Classical.byContradiction fun c => h3 k' hk' c⟩
theorem Tb.before {t : SetTable} {hs : List Int} (T : Tb t hs) {h : Int} {K i j : Nat} (hK : way t.mask h K ∉ t.place.toList) (hi : hs[i]? = some h) (hj : t.place.toList[i]? = some j) : ∃ k, k < K ∧ way t.mask h k = j := by
  obtain ⟨k, e, hb⟩ := T.reach i h j hi hj
  refine ⟨k, Classical.byContradiction fun c => ?_, e⟩
  by_cases d : K = k
  · subst d
    exact hK (e ▸ List.mem_of_getElem? hj)
  · exact hK (hb K (by omega))
theorem Tb.put {t : SetTable} {hs : List Int} (T : Tb t hs) {h : Int} {K : Nat} (hK : way t.mask h K ∉ t.place.toList) (hb : ∀ k, k < K → way t.mask h k ∈ t.place.toList) :
    SetTable.below t.place (way t.mask h K) ≤ hs.length ∧ Tb (t.put (way t.mask h K)).1 (hs.take (SetTable.below t.place (way t.mask h K)) ++ h :: hs.drop (SetTable.below t.place (way t.mask h K))) ∧ (t.put (way t.mask h K)).1.fill = hs.length + 1 := by
  have hjm := way_in t.mask h K
  generalize hj : way t.mask h K = j at *
  have hp : SetTable.below t.place j ≤ t.place.toList.length := by
    rw [Array.length_toList]
    exact (below_cut T.ris j).1
  have hph : SetTable.below t.place j ≤ hs.length := by rw [← T.sz]; exact hp
  have hpp := put_place t j
  have hlen : (t.put j).1.place.toList.length = hs.length + 1 := by rw [hpp, len_ins _ hp, T.sz]
  have up : ∀ {x : Nat}, x ∈ t.place.toList → x ∈ (t.put j).1.place.toList := fun hx => by
    rw [hpp]
    exact mem_ins.2 (.inr hx)
  refine ⟨hph, ⟨ris_insert T.ris fun e => hK (List.mem_of_getElem? (by rw [Array.getElem?_toList]; exact e)), put_dm T.dm j, ?_, T.mok, fun x hx => ?_, fun i h' j' h1 h2 => ?_⟩, ?_⟩
  · rw [hlen, len_ins _ hph]
  · rw [hpp] at hx
    rcases mem_ins.1 hx with rfl | z
    · exact hjm
    · exact T.bd x z
  · rw [tins_get hs hph] at h1
    rw [hpp, tins_get _ hp] at h2
    show ∃ k, way t.mask h' k = j' ∧ ∀ k', k' < k → way t.mask h' k' ∈ (t.put j).1.place.toList
    have old : ∀ i', hs[i']? = some h' → t.place.toList[i']? = some j' → ∃ k, way t.mask h' k = j' ∧ ∀ k', k' < k → way t.mask h' k' ∈ (t.put j).1.place.toList := fun i' a b => by
      obtain ⟨k, e, z⟩ := T.reach i' h' j' a b
      exact ⟨k, e, fun k' hk' => up (z k' hk')⟩
    by_cases c : i < SetTable.below t.place j
    · rw [if_pos c] at h1 h2
      exact old i h1 h2
    · rw [if_neg c] at h1 h2
      by_cases d : i = SetTable.below t.place j
      · rw [if_pos d] at h1 h2
        cases h1
        cases h2
        exact ⟨K, hj, fun k' hk' => up (hb k' hk')⟩
      · rw [if_neg d] at h1 h2
        exact old (i - 1) h1 h2
  · show (t.put j).1.place.size + (t.put j).1.dummies.size = hs.length + 1
    rw [← Array.length_toList, hlen, put_dm T.dm j]
    rfl
theorem free_at {m : Nat} (hm : MaskB m) (owner : Array (Option Nat)) (h : Int) {j : Nat} (hj : j ≤ m) (hf : oAt owner j = none) :
    ∃ K, SetTable.layClean.free m owner (SetTable.turns m) (SetTable.bits h % (m + 1)) (SetTable.bits h) = some (way m h K) ∧ oAt owner (way m h K) = none ∧ ∀ k, k < K → oAt owner (way m h k) ≠ none := by
  obtain ⟨n, hn, e⟩ := run_met hm h hj
  have hw : way m h (off m (SetTable.bits h % (m + 1)) (SetTable.bits h) n) = j := by
    show (nth m (runAt m (SetTable.bits h % (m + 1)) (SetTable.bits h)) _).j = j
    rw [nth_off, itL_run]
    exact e
  obtain ⟨K, k1, k2, k3⟩ := st_least (p := fun k => oAt owner (way m h k) = none) _ (show oAt owner (way m h (off m (SetTable.bits h % (m + 1)) (SetTable.bits h) n)) = none by rw [hw]; exact hf)
  refine ⟨K, free_spec m owner (SetTable.turns m) n _ _ K (by unfold SetTable.turns; omega) k1 (fun k hk => ?_) ?_, k2, k3⟩
  · cases z : oAt owner (nth m (runAt m (SetTable.bits h % (m + 1)) (SetTable.bits h)) k).j with
    | none => exact absurd z (k3 k hk)
    | some _ => rfl
  · show (oAt owner (way m h K)).isNone = true
    rw [k2]
    rfl
theorem own_step {m : Nat} (hm : MaskB m) {done : List Int} {owner : Array (Option Nat)} (W : Own m done owner) (hl : done.length ≤ m) (h : Int) :
    ∃ j, SetTable.layClean.free m owner (SetTable.turns m) (SetTable.bits h % (m + 1)) (SetTable.bits h) = some j ∧ Own m (done ++ [h]) (owner.setIfInBounds j (some done.length)) := by
  obtain ⟨ps, hps, hin⟩ := W.ps
  obtain ⟨j0, h0, hn0⟩ := st_missing ps (m + 1) (by omega)
  have hj0 : oAt owner j0 = none := Classical.byContradiction fun z => hn0 (hin j0 (by omega) z)
  obtain ⟨K, e1, e2, e3⟩ := free_at hm owner h (show j0 ≤ m by omega) hj0
  have hjm := way_in m h K
  refine ⟨way m h K, e1, ?_⟩
  generalize hw : way m h K = x at *
  have hself : oAt (owner.setIfInBounds x (some done.length)) x = some done.length := oAt_set_self _ (by rw [W.sz]; omega)
  have keep : ∀ {i : Nat}, i ≠ x → oAt (owner.setIfInBounds x (some done.length)) i = oAt owner i := fun c => oAt_set_ne _ c
  have mono : ∀ {i : Nat}, oAt owner i ≠ none → oAt (owner.setIfInBounds x (some done.length)) i ≠ none := fun {i} hi => by
    by_cases c : i = x
    · rw [c, hself]; exact nofun
    · rw [keep c]; exact hi
  refine ⟨by rw [Array.size_setIfInBounds]; exact W.sz, fun j k hj e => ?_, fun k hk => ?_, ⟨x :: ps, by simp [hps], fun j hj e => ?_⟩⟩
  · by_cases c : j = x
    · rw [c, hself] at e
      cases e
      exact ⟨h, K, by simp, by rw [hw, c], fun k' hk' => mono (e3 k' hk')⟩
    · rw [keep c] at e
      obtain ⟨h', K', a1, a2, a3⟩ := W.at_ j k hj e
      refine ⟨h', K', ?_, a2, fun k' hk' => mono (a3 k' hk')⟩
      rw [List.getElem?_append_left (List.getElem?_eq_some_iff.mp a1).1]
      exact a1
  · rw [List.length_append, List.length_singleton] at hk
    by_cases c : k < done.length
    · obtain ⟨j, hj, e⟩ := W.all k c
      exact ⟨j, hj, by rw [keep (fun z => by rw [z, e2] at e; cases e)]; exact e⟩
    · rw [show k = done.length by omega]
      exact ⟨x, hjm, hself⟩
  · by_cases c : j = x
    · rw [c]; exact List.mem_cons_self
    · rw [keep c] at e
      exact List.mem_cons_of_mem _ (hin j hj e)
theorem own_all {m : Nat} (hm : MaskB m) : ∀ (rest done : List Int) (owner : Array (Option Nat)), Own m done owner → done.length + rest.length ≤ m →
    ∃ owner', rest.foldl (stepF m) (some (owner, done.length)) = some (owner', (done ++ rest).length) ∧ Own m (done ++ rest) owner'
  | [], done, owner, W, _ => ⟨owner, by simp, by simpa using W⟩
  | h :: rest, done, owner, W, hl => by
    rw [List.length_cons] at hl
    obtain ⟨j, e, W'⟩ := own_step hm W (by omega) h
    obtain ⟨owner', f, W2⟩ := own_all hm rest (done ++ [h]) _ W' (by simp; omega)
    refine ⟨owner', ?_, by simpa using W2⟩
    rw [List.foldl_cons, stepF_some e]
    simpa using f
theorem clean_ok {m : Nat} (hm : MaskB m) {hs : Array Int} (hn : hs.size ≤ m) : ∃ owner, SetTable.layClean m hs = some owner ∧ Own m hs.toList owner := by
  obtain ⟨owner, f, W⟩ := own_all hm hs.toList [] _ (Own.init m) (by simpa using hn)
  refine ⟨owner, ?_, by simpa using W⟩
  rw [layClean_eq]
  have f' : hs.toList.foldl (stepF m) (some (Array.replicate (m + 1) none, 0)) = some (owner, ([] ++ hs.toList).length) := f
  rw [f']
  rfl
theorem relaid_as (t : SetTable) {hs : Array Int} {wanted M : Nat} (hw : SetTable.sizeAbove wanted - 1 = M) (hM : MaskB M) (hn : hs.size ≤ M) :
    ∃ t' order, t.relaid hs wanted = some (t', order) ∧ order.toList.Perm (List.range hs.size) ∧ Tb t' (order.toList.map fun i => hs.getD i 0) ∧ t'.mask = M ∧ t'.led = t.led ∧ t'.plain = t.plain := by
  obtain ⟨owner, e, W⟩ := clean_ok hM hn
  have hz : hs.toList.length = hs.size := rfl
  obtain ⟨r1, r2⟩ : L2.Ris ((liveOf M owner).map (·.1)) ∧ ∀ x ∈ (liveOf M owner).map (·.1), x ∈ List.range (M + 1) := ris_live (fun j => owner.getD j none) (List.range (M + 1)) (by
    unfold L2.Ris
    first | exact List.pairwise_lt_range | exact List.pairwise_lt_range _)
  have nd : ((liveOf M owner).map (·.1)).Nodup := List.Pairwise.imp (fun h => Nat.ne_of_lt h) r1
  have hlen : (liveOf M owner).length = hs.size := by
    obtain ⟨ps, p1, p2⟩ := W.ps
    have a := nat_nodup_len _ ps nd fun x hx => by
      obtain ⟨⟨y, k⟩, hq, rfl⟩ := List.mem_map.mp hx
      obtain ⟨b1, b2⟩ := (mem_live W.sz).1 hq
      exact p2 y b1 (by rw [b2]; exact nofun)
    have b := nat_nodup_len (List.range hs.size) ((liveOf M owner).map (·.2)) List.nodup_range fun k hk => by
      obtain ⟨j, b1, b2⟩ := W.all k (List.mem_range.mp hk)
      exact List.mem_map.mpr ⟨(j, k), (mem_live W.sz).2 ⟨b1, b2⟩, rfl⟩
    rw [List.length_map, p1] at a
    rw [List.length_map, List.length_range] at b
    omega
  refine ⟨tabOf t M owner, ((liveOf M owner).map (·.2)).toArray, by rw [relaid_eq, hw, e]; rfl, perm_range hs.size _ (by show ((liveOf M owner).map (·.2)).length = _; rw [List.length_map]; exact hlen) fun k hk => ?_, ⟨r1, rfl, ?_, hM, fun x hx => ?_, fun i h j h1 h2 => ?_⟩, rfl, rfl, rfl⟩
  · obtain ⟨j, b1, b2⟩ := W.all k hk
    exact List.mem_map.mpr ⟨(j, k), (mem_live W.sz).2 ⟨b1, b2⟩, rfl⟩
  · show ((liveOf M owner).map (·.1)).length = (((liveOf M owner).map (·.2)).map fun i => hs.getD i 0).length
    simp
  · have := List.mem_range.mp (r2 x hx)
    show x ≤ M
    omega
  · have h1' : (((liveOf M owner).map (·.2)).map fun i => hs.getD i 0)[i]? = some h := h1
    have h2' : ((liveOf M owner).map (·.1))[i]? = some j := h2
    rw [List.getElem?_map, List.getElem?_map] at h1'
    rw [List.getElem?_map] at h2'
    cases hq : (liveOf M owner)[i]? with
    | none => rw [hq] at h2'; cases h2'
    | some q =>
      obtain ⟨y, k⟩ := q
      rw [hq] at h1' h2'
      cases h2'
      have eh : hs.getD k 0 = h := Option.some.inj h1'
      obtain ⟨b1, b2⟩ := (mem_live W.sz).1 (List.mem_of_getElem? hq)
      obtain ⟨h0, K, a1, a2, a3⟩ := W.at_ y k b1 b2
      have e0 : hs.getD k 0 = h0 := by
        rw [Array.getD_eq_getD_getElem?, ← Array.getElem?_toList, a1]
        rfl
      rw [e0] at eh
      subst eh
      refine ⟨K, a2, fun k' hk' => ?_⟩
      show way M h0 k' ∈ (liveOf M owner).map (·.1)
      cases z : oAt owner (way M h0 k') with
      | none => exact absurd z (a3 k' hk')
      | some k2 => exact List.mem_map.mpr ⟨(way M h0 k', k2), (mem_live W.sz).2 ⟨way_in M h0 k', z⟩, rfl⟩
theorem size_5 : SetTable.sizeAbove (SetTable.grown 5) = 32 := by decide +kernel
theorem size_19 : SetTable.sizeAbove (SetTable.grown 19) = 128 := by decide +kernel
theorem size_77 : SetTable.sizeAbove (SetTable.grown 77) = 512 := by decide +kernel
theorem size_307 : SetTable.sizeAbove (SetTable.grown 307) = 2048 := by decide +kernel
theorem size_1229 : SetTable.sizeAbove (SetTable.grown 1229) = 8192 := by decide +kernel
end BS
end
section
set_option Elab.async false
set_option linter.all false
set_option maxRecDepth 100000
set_option maxHeartbeats 4000000
namespace BS
open PySem PySem.Spec L2 PyProof.Rows
section
variable {P : Program} {w : World} {A : Around} {E : Value → Shared → Prop} {s : Shared}
structure SetB (P : Program) (w : World) (h : Heap) (a : Addr) (L : List (Addr × List Int)) (es : Array (Int × Value)) (ep : Nat) (t : SetTable) : Prop where
  ob : ∃ o, h.get? a = some o ∧ o.ExactSet ∧ o.data = .set es ep t
  rows : es.toList = rowsOf P w L
  tab : Tb t (L.map fun p => thash P w p.2)
  nd : (L.map (·.2)).Nodup
  tup : ∀ p ∈ L, IsT P w h p.2 p.1
  plain : t.plain = true
  led : w.params.followText "set-order" = true ∨ t.led = true
  room : L.length * 5 < t.mask * 3
variable {a : Addr} {L : List (Addr × List Int)} {es : Array (Int × Value)} {ep : Nat} {t : SetTable}
theorem rows_len {es : Array (Int × Value)} (h : es.toList = rowsOf P w L) : es.size = L.length := by
  have := congrArg List.length h
  simpa [rowsOf] using this
theorem fits_of {t : SetTable} {n : Nat} (h1 : t.place.toList.length = n) (h2 : t.dummies = #[]) (h3 : n ≤ t.mask) : t.fits n = true := by
  unfold SetTable.fits SetTable.fill
  rw [h2, Bool.and_eq_true, beq_iff_eq, decide_eq_true_eq, ← Array.length_toList, h1]
  exact ⟨rfl, h3⟩
theorem SetB.sz (R : SetB P w s.heap a L es ep t) : t.place.toList.length = L.length := by
  rw [R.tab.sz, List.length_map]
theorem SetB.fits (R : SetB P w s.heap a L es ep t) : t.fits es.size = true := by
  have := R.room
  exact fits_of (by rw [R.sz, rows_len R.rows]) R.tab.dm (by rw [rows_len R.rows]; omega)
theorem SetB.entry (R : SetB P w s.heap a L es ep t) {i : Nat} {p : Addr × List Int} (h : L[i]? = some p) : es[i]? = some (thash P w p.2, Value.ref p.1) := by
  rw [← Array.getElem?_toList, R.rows]
  unfold rowsOf
  rw [List.getElem?_map, h]
  rfl
theorem SetB.gw (R : SetB P w s.heap a L es ep t) : ¬ t.gaveWay = true := by
  unfold SetTable.gaveWay
  rw [odd R.tab.mok]
  decide
theorem nth_dummy (m : Nat) : ∀ (n : Nat) (p : SetTable.Probe), p.dummy = none → (nth m p n).dummy = none
  | 0, _, h => h
  | n + 1, p, h => nth_dummy m n (adv m p) (by unfold adv; split <;> exact h)
/-- the way's c-th state -/
abbrev stt (m : Nat) (h : Int) (c : Nat) : SetTable.Probe := nth m (runAt m (SetTable.bits h % (m + 1)) (SetTable.bits h)) c
theorem stt_add (m : Nat) (h : Int) (c q : Nat) : nth m (stt m h c) q = stt m h (c + q) := (nth_add m c _ q).symm
theorem stt_j (m : Nat) (h : Int) (c q : Nat) : (nth m (stt m h c) q).j = way m h (c + q) := congrArg SetTable.Probe.j (stt_add m h c q)
/-- the search, from the c-th state on -/
theorem seek (R : SetB P w s.heap a L es ep t) {x : Addr} {k : List Int} (hx : IsT P w s.heap k x) (hu : A.units < cLine) {K : Nat} (hKf : K < 10 * SetTable.turns t.mask)
    (hK : way t.mask (thash P w k) K ∉ t.place.toList) (hKb : ∀ c, c < K → way t.mask (thash P w k) c ∈ t.place.toList) {Q : SetFound → Shared → Prop}
    (hin : k ∈ L.map (·.2) → Q (.there none) s) (hout : k ∉ L.map (·.2) → Q (.free (way t.mask (thash P w k) K) false) s) :
    ∀ (f c : Nat) (stand : Option SetTable.Probe), stand.getD (t.probeStart (thash P w k)) = stt t.mask (thash P w k) c → c ≤ K → K - c < f →
      (∀ (i : Nat) p, L[i]? = some p → p.2 = k → ∃ c', c ≤ c' ∧ c' < K ∧ t.place.toList[i]? = some (way t.mask (thash P w k) c')) →
      wpAny (model P w) A (setSearchFrom a (.ref x) (thash P w k) true f stand) Q E s := by
  intro f
  induction f with
  | zero => intro c stand _ _ hf; exact absurd hf (Nat.not_lt_zero _)
  | succ f ih =>
  intro c stand hst hc hf hre
  obtain ⟨o, ho, hex, hd⟩ := R.ob
  rw [setSearchFrom_succ]
  refine wpAny_bind (wpAny_setState_of ho hd R.fits ?_)
  dsimp only
  refine wp_if_neg R.gw ?_
  try refine wpAny_bind (wpAny_pure ?_)
  have ha : ∀ (i : Nat) p, L[i]? = some p → (fun i => (es[i]?.map (·.1)).getD 0) i = thash P w p.2 := fun i p hp => by
    show (es[i]?.map (·.1)).getD 0 = _
    rw [R.entry hp]
    rfl
  rcases go_spec t R.tab.ris R.tab.dm (fun i => (es[i]?.map (·.1)).getD 0) (thash P w k) (10 * SetTable.turns t.mask) (K - c) _ (nth_dummy t.mask c _ rfl) (by omega)
      (fun q hq => by rw [stt_j]; exact hKb (c + q) (by omega)) (by rw [stt_j, show c + (K - c) = K by omega]; exact hK) with ⟨q, i, hq, hi, hh, hno, hpr⟩ | ⟨hno, hpr⟩
  · have hpr' : t.probe (fun i => (es[i]?.map (·.1)).getD 0) (thash P w k) (stand.getD (t.probeStart (thash P w k))) = some (.candidate (way t.mask (thash P w k) (c + q)) i (stt t.mask (thash P w k) (c + (q + 1)))) := by
      rw [hst, ← stt_j, ← stt_add]
      exact hpr
    rw [hpr']
    dsimp only
    rw [stt_j] at hi
    have hil : i < L.length := by
      rw [← R.sz]
      exact (List.getElem?_eq_some_iff.mp hi).1
    have hp : L[i]? = some L[i] := List.getElem?_eq_getElem hil
    generalize hpe : L[i] = p at hp
    have hmem : p ∈ L := List.mem_of_getElem? hp
    have rest : wpAny (model P w) A (searchRest a (.ref x) (thash P w k) true f es t (way t.mask (thash P w k) (c + q)) i (stt t.mask (thash P w k) (c + (q + 1)))) Q E s := by
      unfold searchRest
      rw [R.entry hp]
      dsimp only
      refine wpAny_bind (wpAny_holding (wpAny_eqBool_tuple hu (R.tup p hmem) hx ?_))
      refine wpAny_bind (wpAny_setState_of ho hd R.fits ?_)
      dsimp only
      by_cases hkk : p.2 = k
      · refine wp_if_pos (by simp [hkk]) ?_
        exact wpAny_pure (hin (List.mem_map.mpr ⟨p, hmem, hkk⟩))
      · refine wp_if_neg (by simp [hkk]) ?_
        try refine wpAny_bind (wpAny_pure ?_)
        rw [sameMem]
        dsimp only
        have hsl : t.slot (way t.mask (thash P w k) (c + q)) = .live i := slot_live R.tab.ris hi
        simp only [if_true, hsl, R.entry hp]
        refine wpAny_bind (wpAny_isSame_ref_self (wpAny_bind (wpAny_pure ?_)))
        simp only [if_true]
        refine wp_if_neg (by simp [hkk]) ?_
        refine ih (c + (q + 1)) _ rfl (by omega) (by omega) fun i0 p0 h0 hk0 => ?_
        obtain ⟨c', a1, a2, a3⟩ := hre i0 p0 h0 hk0
        refine ⟨c', Classical.byContradiction fun z => ?_, a2, a3⟩
        by_cases y : c' = c + q
        · subst y
          have s0 := slot_live R.tab.ris a3
          rw [hsl] at s0
          injection s0 with s0
          subst s0
          rw [hp] at h0
          cases h0
          exact hkk hk0
        · refine hno (c' - c) i0 (by omega) (by rw [stt_j, show c + (c' - c) = c' by omega]; exact a3) ?_
          exact (ha i0 p0 h0).trans (congrArg (thash P w) hk0)
    by_cases hl : t.led = true
    · refine wp_if_neg (by simp [hl]) ?_
      try refine wpAny_bind (wpAny_pure ?_)
      exact rest
    · refine wp_if_pos (by simp [hl]) ?_
      refine wpAny_bind (seen_tup hx (fun y hy => ?_) ?_)
      · obtain ⟨e, he, ee⟩ := List.mem_map.mp hy
        have he1 : e ∈ es ∧ e.1 = thash P w k := by simpa using he
        have he2 : e ∈ es.toList := by simpa using he1.1
        rw [R.rows] at he2
        obtain ⟨p2, hp2, e2⟩ := List.mem_map.mp he2
        exact ⟨p2.2, p2.1, by rw [← ee, ← e2], R.tup p2 hp2⟩
      · refine wp_if_neg (by decide) ?_
        try refine wpAny_bind (wpAny_pure ?_)
        exact rest
  · have hpr' : t.probe (fun i => (es[i]?.map (·.1)).getD 0) (thash P w k) (stand.getD (t.probeStart (thash P w k))) = some (.empty (way t.mask (thash P w k) K) none) := by
      have e2 : way t.mask (thash P w k) K = (nth t.mask (stt t.mask (thash P w k) c) (K - c)).j := by rw [stt_j, show c + (K - c) = K by omega]
      rw [hst, e2]
      exact hpr
    rw [hpr']
    dsimp only
    refine wpAny_pure (hout fun hm => ?_)
    obtain ⟨p0, h0, hk0⟩ := List.mem_map.mp hm
    obtain ⟨i0, h00⟩ := List.mem_iff_getElem?.mp h0
    obtain ⟨c', a1, a2, a3⟩ := hre i0 p0 h00 hk0
    exact hno (c' - c) i0 (by omega) (by rw [stt_j, show c + (c' - c) = c' by omega]; exact a3) ((ha i0 p0 h00).trans (congrArg (thash P w) hk0))
theorem seek_add (R : SetB P w s.heap a L es ep t) {x : Addr} {k : List Int} (hx : IsT P w s.heap k x) (hu : A.units < cLine) {Q : SetFound → Shared → Prop}
    (hin : k ∈ L.map (·.2) → Q (.there none) s)
    (hout : ∀ K, k ∉ L.map (·.2) → way t.mask (thash P w k) K ∉ t.place.toList → (∀ c, c < K → way t.mask (thash P w k) c ∈ t.place.toList) → Q (.free (way t.mask (thash P w k) K) false) s) :
    wpAny (model P w) A (setSearch a (.ref x) (thash P w k) true) Q E s := by
  have hroom := R.room
  obtain ⟨K, hKf, hK, hKb⟩ := R.tab.first (by rw [List.length_map]; omega) (thash P w k)
  have hbig := turns_le R.tab.mok
  unfold setSearch
  refine seek R hx hu hKf hK hKb hin (fun hn => hout K hn hK hKb) 100000 0 none rfl (Nat.zero_le _) (by omega) fun i p hp hk => ?_
  have hi : (L.map fun p => thash P w p.2)[i]? = some (thash P w k) := by rw [List.getElem?_map, hp, ← hk]; rfl
  have hil : i < t.place.toList.length := by
    rw [R.sz]
    exact (List.getElem?_eq_some_iff.mp hp).1
  have hj := List.getElem?_eq_getElem hil
  obtain ⟨c, hc, e⟩ := R.tab.before hK hi hj
  exact ⟨c, Nat.zero_le _, hc, by rw [hj, e]⟩
end
end BS
end
section
set_option Elab.async false
set_option linter.all false
set_option maxRecDepth 100000
set_option maxHeartbeats 4000000
namespace BS
open PySem PySem.Spec L2 PyProof.Rows
section
variable {P : Program} {w : World} {A : Around} {E : Value → Shared → Prop} {s : Shared} {a : Addr} {L : List (Addr × List Int)} {es : Array (Int × Value)} {ep : Nat} {t : SetTable}
theorem lay {o : Obj} (ho : s.heap.get? a = some o) (hex : o.ExactSet) (hd : o.data = .set es ep t) (hrows : es.toList = rowsOf P w L) (T0 : Tb t (L.map fun p => thash P w p.2)) (hfl : L.length ≤ t.mask)
    (nd : (L.map (·.2)).Nodup) (tup : ∀ p ∈ L, IsT P w s.heap p.2 p.1) (pl : t.plain = true) (ld : w.params.followText "set-order" = true ∨ t.led = true) {wanted M : Nat}
    (hw : SetTable.sizeAbove wanted - 1 = M) (hM : MaskB M) (hw2 : SetTable.sizeAbove wanted ≤ 8192) (hn : L.length * 5 < M * 3) {Q : Unit → Shared → Prop}
    (hQ : ∀ h' L' es' ep' t', Heap.SameBut a s.heap h' → SetB P w h' a L' es' ep' t' → L'.Perm L → Q () { s with heap := h' }) : wpAny (model P w) A (setRelay a wanted) Q E s := by
  have hsl := rows_len hrows
  have hfits : t.fits es.size = true := fits_of (by rw [T0.sz, List.length_map, hsl]) T0.dm (by rw [hsl]; exact hfl)
  obtain ⟨t', order, e, hp, T, em, el, epl⟩ := relaid_as t (hs := es.map (·.1)) (wanted := wanted) hw hM (by rw [Array.size_map, hsl]; omega)
  rw [Array.size_map, hsl] at hp
  obtain ⟨L2, r1, r2, r3⟩ := order_rows L es order hrows hp
  rw [← r3] at T
  have hs2 : (order.filterMap (es[·]?)).size = es.size := by rw [rows_len r1, r2.length_eq, hsl]
  have hM2 : L.length < 8192 := by
    rcases hM with rfl | rfl | rfl | rfl | rfl | rfl <;> omega
  rw [setRelay_eq]
  refine wpAny_bind (wpAny_setState_of ho hd hfits ?_)
  dsimp only
  refine wp_if_neg (by rw [sizeLine_eq]; omega) ?_
  try refine wpAny_bind (wpAny_pure ?_)
  rw [e]
  dsimp only
  refine wpAny_bind ?_
  refine wp_if_neg (by rw [hs2]; simp) ?_
  try refine wpAny_bind (wpAny_pure ?_)
  refine wpAny_pure ?_
  dsimp only
  refine wpAny_storeSet_of ho hd ?_ (by rw [hs2, hsl, sizeLine_eq]; omega)
  have sb : Heap.SameBut a s.heap (s.heap.update a (Obj.putSet (order.filterMap (es[·]?)) t')) := Heap.SameBut.update ..
  exact hQ _ L2 (order.filterMap (es[·]?)) (ep + 1) t' sb ⟨⟨_, store_at ho hd, ⟨hex.1, hex.2.1, hex.2.2⟩, rfl⟩, r1, T, (r2.map (·.2)).nodup_iff.mpr nd, fun p hpm => isT_same (tup p (r2.mem_iff.mp hpm)) ho hd sb, by rw [epl]; exact pl, by rw [el]; exact ld, by rw [r2.length_eq, em]; exact hn⟩ r2
/-- when a table is too full, the next is -/
theorem next_mask {m n : Nat} (hm : MaskB m) (hroom : n * 5 < m * 3) (hfull : (n + 1) * 5 ≥ m * 3) (hn : n < 4000) :
    ∃ M, SetTable.sizeAbove (SetTable.grown (n + 1)) - 1 = M ∧ MaskB M ∧ SetTable.sizeAbove (SetTable.grown (n + 1)) ≤ 8192 ∧ (n + 1) * 5 < M * 3 := by
  have key : ∀ (c S : Nat), n + 1 = c → SetTable.sizeAbove (SetTable.grown c) = S → MaskB (S - 1) → S ≤ 8192 → c * 5 < (S - 1) * 3 → ∃ M, SetTable.sizeAbove (SetTable.grown (n + 1)) - 1 = M ∧ MaskB M ∧ SetTable.sizeAbove (SetTable.grown (n + 1)) ≤ 8192 ∧ (n + 1) * 5 < M * 3 := by
    intro c S h1 h2 h3 h4 h5
    subst h1
    exact ⟨S - 1, by rw [h2], h3, by rw [h2]; exact h4, h5⟩
  rcases hm with rfl | rfl | rfl | rfl | rfl | rfl
  · exact key 5 32 (by omega) size_5 (.inr (.inl rfl)) (by decide) (by decide)
  · exact key 19 128 (by omega) size_19 (.inr (.inr (.inl rfl))) (by decide) (by decide)
  · exact key 77 512 (by omega) size_77 (.inr (.inr (.inr (.inl rfl)))) (by decide) (by decide)
  · exact key 307 2048 (by omega) size_307 (.inr (.inr (.inr (.inr (.inl rfl))))) (by decide) (by decide)
  · exact key 1229 8192 (by omega) size_1229 (.inr (.inr (.inr (.inr (.inr rfl))))) (by decide) (by decide)
  · omega
theorem add (R : SetB P w s.heap a L es ep t) {x : Addr} {k : List Int} (hx : IsT P w s.heap k x) (hu : A.units < cLine) (hfew : L.length < 4000) {Q : Bool → Shared → Prop}
    (hQ : ∀ b h' L' es' ep' t', Heap.SameBut a s.heap h' → SetB P w h' a L' es' ep' t' → (k ∈ L.map (·.2) → L' = L) → (k ∉ L.map (·.2) → L'.Perm ((x, k) :: L)) → Q b { s with heap := h' }) :
    wpAny (model P w) A (setAddHashed a (.ref x) (thash P w k)) Q E s := by
  obtain ⟨o, ho, hex, hd⟩ := R.ob
  have hsl := rows_len R.rows
  have hroom := R.room
  unfold setAddHashed
  refine wpAny_holding ?_
  rw [show (100000 : Nat) = 99999 + 1 from rfl, setAddHashedIn_succ]
  refine wpAny_bind (wpAny_setState_of ho hd R.fits ?_)
  dsimp only
  refine wp_if_neg (by simp [byScan, Value.scannable]) ?_
  try refine wpAny_bind (wpAny_pure ?_)
  refine wpAny_bind (seek_add R hx hu (fun hm => ?_) fun K hm hK hb => ?_)
  · dsimp only
    exact wpAny_pure (hQ false s.heap L es ep t (Heap.SameBut.refl a s.heap) R (fun _ => rfl) fun z => absurd hm z)
  · dsimp only
    refine wpAny_bind (wpAny_setState_of ho hd R.fits ?_)
    dsimp only
    obtain ⟨q2, q3, q9⟩ := R.tab.put hK hb
    have q1 : (t.put (way t.mask (thash P w k) K)).2 = SetTable.below t.place (way t.mask (thash P w k) K) := rfl
    have q4 : (t.put (way t.mask (thash P w k) K)).1.mask = t.mask := rfl
    have q5 : (t.put (way t.mask (thash P w k) K)).1.led = t.led := rfl
    have hp1 : (t.put (way t.mask (thash P w k) K)).1.plain = true := R.plain
    generalize hpt : t.put (way t.mask (thash P w k) K) = pt at q1 q3 q4 q5 q9 hp1 ⊢
    obtain ⟨t1, p⟩ := pt
    dsimp only at q1 q3 q4 q5 q9 hp1 ⊢
    subst q1
    first
      | (refine wpAny_bind ?_; refine wp_if_pos hp1 ?_; refine hashBy_tup hx ?_)
      | refine wp_if_pos hp1 (wpAny_bind (hashBy_tup hx ?_))
    simp only [if_true]
    have hin : (SetTable.insertAt es (SetTable.below t.place (way t.mask (thash P w k) K)) (thash P w k, Value.ref x)).toList = rowsOf P w (L.take (SetTable.below t.place (way t.mask (thash P w k) K)) ++ (x, k) :: L.drop (SetTable.below t.place (way t.mask (thash P w k) K))) := by
      rw [SetTable.toList_insertAt, rows_put, R.rows]
    generalize SetTable.below t.place (way t.mask (thash P w k) K) = p at q2 q3 hin ⊢
    have pm := put_perm L p (x, k)
    have hlen : (L.take p ++ (x, k) :: L.drop p).length = L.length + 1 := pm.length_eq
    have hhs : (L.take p ++ (x, k) :: L.drop p).map (fun p => thash P w p.2) = (L.map fun p => thash P w p.2).take p ++ thash P w k :: (L.map fun p => thash P w p.2).drop p := by
      rw [List.map_append, List.map_cons, List.map_take, List.map_drop]
    rw [← hhs] at q3
    have nd1 : ((L.take p ++ (x, k) :: L.drop p).map (·.2)).Nodup := by
      refine (pm.map (·.2)).nodup_iff.mpr ?_
      rw [List.map_cons]
      exact List.nodup_cons.mpr ⟨hm, R.nd⟩
    have hes := rows_len hin
    rw [hlen] at hes
    generalize SetTable.insertAt es p (thash P w k, Value.ref x) = es1 at hin hes ⊢
    generalize L.take p ++ (x, k) :: L.drop p = L1 at pm hlen q3 nd1 hin
    refine wpAny_bind (wpAny_storeSet_of ho hd ?_ (by rw [hes, sizeLine_eq]; omega))
    have sb : Heap.SameBut a s.heap (s.heap.update a (Obj.putSet es1 t1)) := Heap.SameBut.update ..
    have ho1 := store_at (es' := es1) (t' := t1) ho hd
    generalize s.heap.update a (Obj.putSet es1 t1) = h1 at sb ho1 ⊢
    have tup1 : ∀ p ∈ L1, IsT P w h1 p.2 p.1 := fun p hp => by
      rcases List.mem_cons.mp (pm.mem_iff.mp hp) with e | hp
      · rw [e]; exact isT_same hx ho hd sb
      · exact isT_same (R.tup p hp) ho hd sb
    have ld1 : w.params.followText "set-order" = true ∨ t1.led = true := by rw [q5]; exact R.led
    rw [List.length_map] at q9
    by_cases hf : t1.tooFull = true
    · first
        | (refine wpAny_bind ?_; refine wp_if_pos (by simp [hf]) ?_)
        | (refine wp_if_pos (by simp [hf]) ?_; refine wpAny_bind ?_)
      have hfull : (L.length + 1) * 5 ≥ t.mask * 3 := by
        have h := hf
        unfold SetTable.tooFull at h
        rw [decide_eq_true_eq, q9, q4] at h
        exact h
      rw [hsl]
      obtain ⟨M, m1, m2, m3, m4⟩ := next_mask R.tab.mok hroom hfull hfew
      have hmk : 7 ≤ t.mask := by rcases R.tab.mok with e | e | e | e | e | e <;> omega
      refine lay (s := { s with heap := h1 }) ho1 ⟨hex.1, hex.2.1, hex.2.2⟩ rfl hin q3 (by rw [hlen, q4]; omega) nd1 tup1 hp1 ld1 m1 m2 m3 (by rw [hlen]; exact m4) ?_
      intro h2 L2 es2 ep2 t2 sb2 R2 pm2
      exact wpAny_pure (hQ true h2 L2 es2 ep2 t2 (sb.trans sb2) R2 (fun z => absurd z hm) fun _ => pm2.trans pm)
    · first
        | refine wp_if_neg (by simp [hf]) ?_
        | (refine wpAny_bind ?_; refine wp_if_neg (by simp [hf]) ?_; refine wpAny_pure ?_)
      refine wpAny_pure (hQ true h1 L1 es1 (ep + 1) t1 sb ⟨⟨_, ho1, ⟨hex.1, hex.2.1, hex.2.2⟩, rfl⟩, hin, q3, nd1, tup1, hp1, ld1, ?_⟩ (fun z => absurd z hm) fun _ => pm)
      have h := hf
      unfold SetTable.tooFull at h
      rw [decide_eq_true_eq, q9] at h
      rw [hlen]
      omega
end
end BS
end
section
set_option Elab.async false
set_option linter.all false
set_option maxRecDepth 100000
set_option maxHeartbeats 4000000
namespace BS
open PySem PySem.Spec L2 PyProof.Rows
section
variable {P : Program} {w : World} {A : Around} {E : Value → Shared → Prop} {s : Shared}
theorem SetB.keep {h h' : Heap} {a : Addr} {L : List (Addr × List Int)} {es : Array (Int × Value)} {ep : Nat} {t : SetTable} (R : SetB P w h a L es ep t) (ha : ∀ o, h.get? a = some o → h'.get? a = some o) (ht : ∀ p ∈ L, IsT P w h' p.2 p.1) : SetB P w h' a L es ep t := by
  obtain ⟨o, ho, r⟩ := R.ob
  exact { R with ob := ⟨o, ha o ho, r⟩, tup := ht }
theorem fresh {h : Heap} {a : Addr} (ho : h.get? a = some { cls := .type "set", dict := none, data := .set #[] 0 (.fresh 0 0 (!w.params.followText "set-order")) }) : SetB P w h a [] #[] 0 (.fresh 0 0 (!w.params.followText "set-order")) where
  ob := ⟨_, ho, ⟨rfl, rfl, rfl⟩, rfl⟩
  rows := rfl
  tab := ⟨List.Pairwise.nil, rfl, rfl, .inl rfl, (fun x hx => nomatch hx), fun i h j hi => (by simp at hi)⟩
  nd := List.nodup_nil
  tup := fun p hp => nomatch hp
  plain := rfl
  led := by
    show _ ∨ (!w.params.followText "set-order") = true
    cases w.params.followText "set-order"
    · exact .inr rfl
    · exact .inl rfl
  room := show 0 * 5 < 7 * 3 by decide
theorem update {I : Addr} {fp wr : List Addr} {G : Array GenState → Array GenState → Prop} {n : Nat} {Pv : Nat → Value → Prop} {St : Nat → Shared → Prop} {R : Result → Shared → Prop}
    (W : WalksS P w A.in1 I fp wr G n Pv St) (S : Addr) (hSf : S ∉ fp) (ks : List (Addr × List Int)) (hn : n = ks.length) (hfew : ks.length < 4000) (hval : ∀ i v, Pv i v → ∃ p, ks[i]? = some p ∧ v = .ref p.1)
    (h0 : Heap) (hk : ∀ p ∈ ks, IsT P w h0 p.2 p.1) (hS0 : h0.get? S = none) (hw0 : ∀ b ∈ wr, h0.get? b = none) (hu : A.in1.units < cLine) :
    ∀ (k i : Nat) (s : Shared), n - i = k → i ≤ n → St i s → (∀ b o, h0.get? b = some o → s.heap.get? b = some o) → (∃ L es ep t, SetB P w s.heap S L es ep t ∧ Got ks i L) →
      (∀ s' L es ep t, Moved (S :: wr) G s s' → SetB P w s'.heap S L es ep t → Got ks n L → (∀ b o, h0.get? b = some o → s'.heap.get? b = some o) → R (.ok (.ret .none)) s') →
      codeAny (model P w) A (.builtin "set.update.loop" ⟨[.ref S, .ref I], []⟩) R s := by
  have hSw : S ∉ wr := fun h => hSf (W.sub _ h)
  have hsub : ∀ b ∈ wr, b ∈ S :: wr := fun b hb => List.mem_cons_of_mem _ hb
  have keepM : ∀ {s s' : Shared}, Moved wr G s s' → (∀ b o, h0.get? b = some o → s.heap.get? b = some o) → ∀ b o, h0.get? b = some o → s'.heap.get? b = some o := fun hm hkp b o e =>
    hm.heap b o (fun hb => by rw [hw0 b hb] at e; cases e) (hkp b o e)
  intro k
  induction k with
  | zero =>
    intro i s hk' hi hst hkp ⟨L, es, ep, t, hS, g⟩ hR
    have hin : i = n := by omega
    subst hin
    refine codeAny_builtin F.entry_set_update_loop ?_
    rw [Around.under_plainId F.plain_set_update_loop _]
    show wpAny _ A.in1 (pyNext (.ref I) >>= _) _ _ s
    refine wpAny_bind (W.done s _ _ hst fun s' hm => ?_)
    show wpAny _ A.in1 (ret Value.none) _ _ s'
    have hkp' := keepM hm hkp
    exact wpAny_pure (hR s' L es ep t (hm.mono hsub) (hS.keep (fun o e => hm.heap S o hSw e) fun p hp => isT_keep (hk p (List.mem_of_mem_take (g.sub p hp))) hkp') g hkp')
  | succ k ih =>
    intro i s hk' hi hst hkp ⟨L, es, ep, t, hS, g⟩ hR
    have hlt : i < n := by omega
    refine codeAny_builtin F.entry_set_update_loop ?_
    rw [Around.under_plainId F.plain_set_update_loop _]
    show wpAny _ A.in1 (pyNext (.ref I) >>= _) _ _ s
    refine wpAny_bind (W.item i s _ _ hlt hst fun v s' hP hst' hm => ?_)
    obtain ⟨p, hp, rfl⟩ := hval i v hP
    have hkp' := keepM hm hkp
    have hS' : SetB P w s'.heap S L es ep t := hS.keep (fun o e => hm.heap S o hSw e) fun q hq => isT_keep (hk q (List.mem_of_mem_take (g.sub q hq))) hkp'
    have hx : IsT P w s'.heap p.2 p.1 := isT_keep (hk p (List.mem_of_getElem? hp)) hkp'
    show wpAny _ A.in1 (holding [Value.ref p.1] (setAdd S (.ref p.1)) >>= _) _ _ s'
    refine wpAny_bind (wpAny_holding ?_)
    unfold setAdd
    refine wpAny_holding ?_
    refine wpAny_bind (wpAny_pyHash_tuple hu hx ?_)
    refine add (s := { s' with toks := s'.toks + (p.2.length + 1) }) hS' hx hu (by have := g.len; omega) fun b h' L' es' ep' t' hsb hS2 c1 c2 => ?_
    have g' : Got ks (i + 1) L' := by
      rcases Classical.em (p.2 ∈ L.map (·.2)) with c | c
      · rw [c1 c]; exact g.same hp c
      · exact g.more hp (c2 c)
    have hkp2 : ∀ b o, h0.get? b = some o → h'.get? b = some o := fun b o e => (hsb.2 b (fun z => by rw [z, hS0] at e; cases e)).trans (hkp' b o e)
    refine wpAny_pure ⟨plainId_quiet F.plain_set_update_loop _, ih (i + 1) _ (by omega) hlt (W.frame _ s' _ _ hst' (Nat.le_add_right _ _) fun b hb o e => ?_) hkp2 ⟨L', es', ep', t', hS2, g'⟩ fun s'' L2 es2 ep2 t2 hm'' hS'' g'' hkp'' => ?_⟩
    · rw [hsb.2 b (fun h : b = S => hSf (by rw [← h]; exact hb))]; exact e
    · refine hR s'' L2 es2 ep2 t2 (Moved.trans W.gtrans ((hm.mono hsub).then_heap (Nat.le_add_right _ _) fun b o hb e => ?_) hm'') hS'' g'' hkp''
      rw [hsb.2 b (fun h : b = S => hb (by rw [h]; exact List.mem_cons_self))]; exact e
end
end BS
end
section
set_option Elab.async false
set_option linter.all false
set_option maxRecDepth 100000
set_option maxHeartbeats 4000000
namespace BS
open PySem PySem.Spec L2 PyProof.Rows
section
variable {P : Program} {w : World} {A : Around} {E : Value → Shared → Prop} {s : Shared}
/-- set(t), t a tuple of tuples of ints -/
theorem call_set_tuple {l : Addr} {items : Array Value} (ks : List (Addr × List Int)) {Q : Value → Shared → Prop} (hh : A.handled = none) (hl : s.heap.IsTuple l items) (hit : items.toList = ks.map fun p => Value.ref p.1)
    (hk : ∀ p ∈ ks, IsT P w s.heap p.2 p.1) (hfew : ks.length < 4000) (hu : A.units + 3 < cLine)
    (h : ∀ (h' : Heap) (tk : Nat) L es ep t, SetB P w h' s.heap.objs.size L es ep t → Got ks ks.length L → (∀ b o, s.heap.get? b = some o → h'.get? b = some o) → Q (.ref s.heap.objs.size) { s with heap := h', toks := tk }) :
    wpAny (model P w) A (call (.type "set") [.ref l]) Q E s := by
  have hn : items.size = ks.length := by simpa using congrArg List.length hit
  generalize hob : ({ cls := .type "set", dict := none, data := .set #[] 0 (.fresh 0 0 (!w.params.followText "set-order")) } : Obj) = ob
  obtain ⟨c, tl, hmro⟩ := F.called_set.mro
  have f1 := F.called_set.made
  have f2 := F.called_set.sub
  have f3 := F.called_set.notType
  have f4 := F.called_set.canCreate
  have f5 := F.typeCall_set_1 (.ref l)
  have f6 := F.called_set.init.lookup
  have f7 := F.called_set.init.bind (.ref s.heap.objs.size)
  have hat : (s.heap.push ob).get? s.heap.objs.size = some ob := Heap.get?_push_size _ (by rw [← hob]; rfl)
  refine wpAny_call (codeAny_of_tree ?_)
  show wpAny _ _ (callAny (.type "set") _) _ _ _
  refine wpAny_pure ⟨Code.quiet_builtin _ (by decide +kernel), codeAny_builtin F.entry_type_call ?_⟩
  rw [Around.under_plain (weight_type_call_type "set" [.ref l] []) rfl]
  repeat (any_goals (first | assumption | wp_step))
  refine codeAny_mono (code_set_led1 (.ref l) (E := E) (Q₁ := fun obj s₁ => obj = .ref s.heap.objs.size ∧ s₁ = { s with heap := s.heap.push ob }) ⟨rfl, by rw [← hob]⟩) fun r s₁ hr => ?_
  match r, hr with
  | .error _, hr => exact hr
  | .ok (.ret obj), hr =>
    obtain ⟨rfl, rfl⟩ := hr
    have hT : Shared.TypeIs { s with heap := s.heap.push ob } (.ref s.heap.objs.size) "set" := ⟨_, hat, by rw [← hob]⟩
    repeat (any_goals (first | assumption | wp_step))
    refine codeAny_mono (codeAny_call_builtin (R := wants (fun r s₂ => r = .none ∧ ∃ h' tk L es ep t, s₂ = { s with heap := h', toks := tk } ∧ SetB P w h' s.heap.objs.size L es ep t ∧ Got ks ks.length L ∧
        (∀ b o, s.heap.get? b = some o → h'.get? b = some o)) E) F.called_set.init.plain F.entry_set_init (check_set_init_1 hT ?_)) fun r₂ s₂ hr₂ => ?_
    · subst hob
      obtain ⟨⟨oc, od, oda, osl⟩, g1, g2, n, g3⟩ := hl
      cases g2
      cases g3
      have g4 := F.sub_tuple_set
      have g5 := F.sub_tuple_frozenset
      have g6 : (Value.type "tuple" == Value.type "dict") = false := by decide
      have g7 : (s.heap.push { cls := .type "set", dict := none, data := .set #[] 0 (.fresh 0 0 (!w.params.followText "set-order")) }).get? l = some { cls := .type "tuple", dict := od, data := .seq items n, slots := osl } := Heap.get?_push_of_some _ g1
      have g8 : (s.heap.push { cls := .type "set", dict := none, data := .set #[] 0 (.fresh 0 0 (!w.params.followText "set-order")) }).IsTuple l items := ⟨_, g7, rfl, n, rfl⟩
      have hlt : l < s.heap.objs.size := Heap.lt_size g1
      have hsz : (s.heap.push { cls := .type "set", dict := none, data := .set #[] 0 (.fresh 0 0 (!w.params.followText "set-order")) }).objs.size = s.heap.objs.size + 1 := Heap.size_push ..
      have gone : ∀ b, s.heap.objs.size ≤ b → s.heap.get? b = none := fun b hb => by
        cases q : s.heap.get? b with
        | none => rfl
        | some o => exact absurd (Heap.lt_size q) (Nat.not_lt.mpr hb)
      unfold Builtin.«set.__init__» noKeywords Builtin.Frozenset.updateFrom
      generalize hPI : pyIter = PI
      wp_walk
      subst hPI
      refine wpAny_pyIter_tuple g8 ?_
      refine wpAny_bind (wpAny_runValue ?_)
      have k1 : A.in1.in1.in1.handled = none := by simp [hh]
      have k2 : l ≠ (s.heap.push { cls := .type "set", dict := none, data := .set #[] 0 (.fresh 0 0 (!w.params.followText "set-order")) }).objs.size := by rw [hsz]; exact Nat.ne_of_lt (Nat.lt_succ_of_lt hlt)
      have k3 : s.heap.objs.size ∉ [(s.heap.push { cls := .type "set", dict := none, data := .set #[] 0 (.fresh 0 0 (!w.params.followText "set-order")) }).objs.size, l] := by
        rw [hsz]
        simp only [List.mem_cons, List.not_mem_nil, or_false, not_or]
        exact ⟨Nat.ne_of_lt (Nat.lt_succ_self _), Nat.ne_of_gt hlt⟩
      refine update ((Walks.tuple k1 _ l k2 items).toS) s.heap.objs.size k3 ks hn hfew (fun i v hv => ?_) s.heap hk (gone _ (Nat.le_refl _)) (fun b hb => gone b ?_) hu (items.size - 0) 0 _ (by omega) (Nat.zero_le _)
        ⟨⟨_, Heap.get?_push_size _ rfl, rfl, rfl⟩, g8.push _⟩ (fun b o e => Heap.get?_push_of_some _ (Heap.get?_push_of_some _ e)) ⟨[], #[], 0, _, fresh (Heap.get?_push_of_some _ hat), Got.zero ks⟩ fun s' L es ep t hm hS' g' hkp => ?_
      · have q : items.toList[i]? = some v := by rw [Array.getElem?_toList]; exact hv
        rw [hit, List.getElem?_map] at q
        obtain ⟨p, e1, e2⟩ := Option.map_eq_some_iff.mp q
        exact ⟨p, e1, e2.symm⟩
      · rw [List.mem_singleton.mp hb, hsz]
        exact Nat.le_succ _
      · rw [hn] at g'
        obtain ⟨h', _, _, tk', _⟩ := s'
        cases hm.gens
        cases hm.drawn
        cases hm.os
        show wpAny _ _ _ _ _ _
        refine wpAny_pure ?_
        show wpAny _ _ (ret Value.none) _ _ _
        exact wpAny_pure ⟨rfl, h', tk', L, es, ep, t, rfl, hS', g', hkp⟩
    · match r₂, hr₂ with
      | .error _, hr₂ => exact hr₂
      | .ok (.ret _), hr₂ =>
        obtain ⟨rfl, h', tk, L, es, ep, t, rfl, hS', g', hk'⟩ := hr₂
        repeat (any_goals (first | assumption | wp_step))
        exact h _ _ _ _ _ _ hS' g' hk'
/-- set(t), t a list of tuples of ints -/
theorem call_set_list {l : Addr} {items : Array Value} (ks : List (Addr × List Int)) {Q : Value → Shared → Prop} (hh : A.handled = none) (hl : s.heap.IsList l items) (hit : items.toList = ks.map fun p => Value.ref p.1)
    (hk : ∀ p ∈ ks, IsT P w s.heap p.2 p.1) (hfew : ks.length < 4000) (hu : A.units + 3 < cLine)
    (h : ∀ (h' : Heap) (tk : Nat) L es ep t, SetB P w h' s.heap.objs.size L es ep t → Got ks ks.length L → (∀ b o, s.heap.get? b = some o → h'.get? b = some o) → Q (.ref s.heap.objs.size) { s with heap := h', toks := tk }) :
    wpAny (model P w) A (call (.type "set") [.ref l]) Q E s := by
  have hn : items.size = ks.length := by simpa using congrArg List.length hit
  generalize hob : ({ cls := .type "set", dict := none, data := .set #[] 0 (.fresh 0 0 (!w.params.followText "set-order")) } : Obj) = ob
  obtain ⟨c, tl, hmro⟩ := F.called_set.mro
  have f1 := F.called_set.made
  have f2 := F.called_set.sub
  have f3 := F.called_set.notType
  have f4 := F.called_set.canCreate
  have f5 := F.typeCall_set_1 (.ref l)
  have f6 := F.called_set.init.lookup
  have f7 := F.called_set.init.bind (.ref s.heap.objs.size)
  have hat : (s.heap.push ob).get? s.heap.objs.size = some ob := Heap.get?_push_size _ (by rw [← hob]; rfl)
  refine wpAny_call (codeAny_of_tree ?_)
  show wpAny _ _ (callAny (.type "set") _) _ _ _
  refine wpAny_pure ⟨Code.quiet_builtin _ (by decide +kernel), codeAny_builtin F.entry_type_call ?_⟩
  rw [Around.under_plain (weight_type_call_type "set" [.ref l] []) rfl]
  repeat (any_goals (first | assumption | wp_step))
  refine codeAny_mono (code_set_led1 (.ref l) (E := E) (Q₁ := fun obj s₁ => obj = .ref s.heap.objs.size ∧ s₁ = { s with heap := s.heap.push ob }) ⟨rfl, by rw [← hob]⟩) fun r s₁ hr => ?_
  match r, hr with
  | .error _, hr => exact hr
  | .ok (.ret obj), hr =>
    obtain ⟨rfl, rfl⟩ := hr
    have hT : Shared.TypeIs { s with heap := s.heap.push ob } (.ref s.heap.objs.size) "set" := ⟨_, hat, by rw [← hob]⟩
    repeat (any_goals (first | assumption | wp_step))
    refine codeAny_mono (codeAny_call_builtin (R := wants (fun r s₂ => r = .none ∧ ∃ h' tk L es ep t, s₂ = { s with heap := h', toks := tk } ∧ SetB P w h' s.heap.objs.size L es ep t ∧ Got ks ks.length L ∧
        (∀ b o, s.heap.get? b = some o → h'.get? b = some o)) E) F.called_set.init.plain F.entry_set_init (check_set_init_1 hT ?_)) fun r₂ s₂ hr₂ => ?_
    · subst hob
      obtain ⟨⟨oc, od, oda, osl⟩, g1, g2, n, g3⟩ := hl
      cases g2
      cases g3
      have g4 := F.sub_list_set
      have g5 := F.sub_list_frozenset
      have g6 : (Value.type "list" == Value.type "dict") = false := by decide
      have g7 : (s.heap.push { cls := .type "set", dict := none, data := .set #[] 0 (.fresh 0 0 (!w.params.followText "set-order")) }).get? l = some { cls := .type "list", dict := od, data := .seq items n, slots := osl } := Heap.get?_push_of_some _ g1
      have g8 : (s.heap.push { cls := .type "set", dict := none, data := .set #[] 0 (.fresh 0 0 (!w.params.followText "set-order")) }).IsList l items := ⟨_, g7, rfl, n, rfl⟩
      have hlt : l < s.heap.objs.size := Heap.lt_size g1
      have hsz : (s.heap.push { cls := .type "set", dict := none, data := .set #[] 0 (.fresh 0 0 (!w.params.followText "set-order")) }).objs.size = s.heap.objs.size + 1 := Heap.size_push ..
      have gone : ∀ b, s.heap.objs.size ≤ b → s.heap.get? b = none := fun b hb => by
        cases q : s.heap.get? b with
        | none => rfl
        | some o => exact absurd (Heap.lt_size q) (Nat.not_lt.mpr hb)
      unfold Builtin.«set.__init__» noKeywords Builtin.Frozenset.updateFrom
      generalize hPI : pyIter = PI
      wp_walk
      subst hPI
      refine wpAny_pyIter_list g8 ?_
      refine wpAny_bind (wpAny_runValue ?_)
      have k1 : A.in1.in1.in1.handled = none := by simp [hh]
      have k2 : l ≠ (s.heap.push { cls := .type "set", dict := none, data := .set #[] 0 (.fresh 0 0 (!w.params.followText "set-order")) }).objs.size := by rw [hsz]; exact Nat.ne_of_lt (Nat.lt_succ_of_lt hlt)
      have k3 : s.heap.objs.size ∉ [(s.heap.push { cls := .type "set", dict := none, data := .set #[] 0 (.fresh 0 0 (!w.params.followText "set-order")) }).objs.size, l] := by
        rw [hsz]
        simp only [List.mem_cons, List.not_mem_nil, or_false, not_or]
        exact ⟨Nat.ne_of_lt (Nat.lt_succ_self _), Nat.ne_of_gt hlt⟩
      refine update ((Walks.list k1 _ l k2 items).toS) s.heap.objs.size k3 ks hn hfew (fun i v hv => ?_) s.heap hk (gone _ (Nat.le_refl _)) (fun b hb => gone b ?_) hu (items.size - 0) 0 _ (by omega) (Nat.zero_le _)
        ⟨⟨_, Heap.get?_push_size _ rfl, rfl, rfl⟩, g8.push _⟩ (fun b o e => Heap.get?_push_of_some _ (Heap.get?_push_of_some _ e)) ⟨[], #[], 0, _, fresh (Heap.get?_push_of_some _ hat), Got.zero ks⟩ fun s' L es ep t hm hS' g' hkp => ?_
      · have q : items.toList[i]? = some v := by rw [Array.getElem?_toList]; exact hv
        rw [hit, List.getElem?_map] at q
        obtain ⟨p, e1, e2⟩ := Option.map_eq_some_iff.mp q
        exact ⟨p, e1, e2.symm⟩
      · rw [List.mem_singleton.mp hb, hsz]
        exact Nat.le_succ _
      · rw [hn] at g'
        obtain ⟨h', _, _, tk', _⟩ := s'
        cases hm.gens
        cases hm.drawn
        cases hm.os
        show wpAny _ _ _ _ _ _
        refine wpAny_pure ?_
        show wpAny _ _ (ret Value.none) _ _ _
        exact wpAny_pure ⟨rfl, h', tk', L, es, ep, t, rfl, hS', g', hkp⟩
    · match r₂, hr₂ with
      | .error _, hr₂ => exact hr₂
      | .ok (.ret _), hr₂ =>
        obtain ⟨rfl, h', tk, L, es, ep, t, rfl, hS', g', hk'⟩ := hr₂
        repeat (any_goals (first | assumption | wp_step))
        exact h _ _ _ _ _ _ hS' g' hk'
end
end BS
end
section
set_option Elab.async false
set_option linter.all false
set_option maxRecDepth 100000
set_option maxHeartbeats 4000000
namespace BS
open PySem PySem.W PySem.Calls PyProof.Rows PySem.SeqAt
section
variable {prog : Program} {w : World} {A : Around} {E : Value → Shared → Prop} {s : Shared}
theorem call_tuple_lt {Q : Value → Shared → Prop} {l b : Addr} {items items2 : Array Value} {e r : Nat → Bool} (hl : s.heap.IsTuple l items) (hb : s.heap.IsTuple b items2)
    (he : ∀ j (h1 : j < items.size) (h2 : j < items2.size), EqAt A.in1 s items[j] items2[j] (e j)) (hr : ∀ j (h1 : j < items.size) (h2 : j < items2.size), e j = false → RcLt A.in1 s items[j] items2[j] (r j))
    (h : Q (.bool (firstLt e r (decide (items.size < items2.size)) (List.range (min items.size items2.size)))) s) : wpAny (model prog w) A (call (.builtin "tuple.__lt__") [.ref l, .ref b]) Q E s := by
  obtain ⟨⟨cls, dd, data, sl⟩, ho, hc, n, hd⟩ := id hl
  obtain ⟨⟨cls2, dd2, data2, sl2⟩, ho2, hc2, n2, hd2⟩ := id hb
  simp only at hc hd hc2 hd2
  subst hc hd hc2 hd2
  exact call_meets F.slot_tuple_lt ⟨_, ho, rfl⟩ F.entry_tuple_lt (F.args_tuple_lt_2 _ _) (tuple_ltAt l b items items2 n n2 dd dd2 sl sl2 e r) ⟨ho, ho2, he, hr, h⟩
theorem oneLt_tuples {xs ys : List PyData} {a b : Value} {as bs : List Addr} {Q : Bool → Shared → Prop} (ra : Reads s.heap a (.tuple xs) as) (rb : Reads s.heap b (.tuple ys) bs) (h : alike (.tuple xs) (.tuple ys) = true)
    (hu : A.units + min (PyData.tuple xs).depth (PyData.tuple ys).depth < cLine) (hq : Q (dataLt (.tuple xs) (.tuple ys)) s) : wpAny (model prog w) A (oneLt' true a b) Q E s := by
  have hal : alikeAll xs ys = true := by simpa [alike] using h
  cases ra with
  | @tuple l o vs n _ as₁ h1 h2 h3 h4 =>
    cases rb with
    | @tuple l' o' vs' n' _ bs₁ k1 k2 k3 k4 =>
      have n1 : vs.size = xs.length := by simpa using ReadsAll.length _ _ _ h4
      have n2 : vs'.size = ys.length := by simpa using ReadsAll.length _ _ _ k4
      rw [dataLt_tuple, ← firstLt_toks xs ys hal, ← n1, ← n2] at hq
      rw [oneLt'_eq]
      simp only [if_true]
      refine wpAny_bind (wpAny_cRoomFor (room_here hu) ?_)
      refine wpAny_bind (wpAny_callSpecialIfBound?_slot (T := "tuple") ⟨_, h1, h2⟩ F.slot_tuple_lt (call_tuple_lt (e := pairEq xs ys) (r := fun j => dataLt (xs.getD j .none) (ys.getD j .none)) ⟨_, h1, h2, _, h3⟩ ⟨_, k1, k2, _, k3⟩ (fun j j1 j2 => ?_) (fun j j1 j2 hj => ?_) ?_))
      · have := eqAt_alikeAll xs ys A.in1 s vs.toList vs'.toList _ _ h4 k4 hal (room_in hu) j (by simpa using j1) (by simpa using j2)
        simpa using this
      · have := rcLt_alikeAll xs ys A.in1 s vs.toList vs'.toList _ _ h4 k4 hal (room_in hu) j (by simpa using j1) (by simpa using j2) hj
        simpa using this
      · exact wpAny_truthy_bool hq
def fullT : PyData → Bool
  | .tuple [] => false
  | _ => true
theorem fullT_of {xs : List PyData} (h : PyData.tuple xs ≠ .tuple []) : fullT (.tuple xs) = true := by
  cases xs with
  | nil => exact absurd rfl h
  | cons x r => rfl
/-- the first item of each of some tuples, if it has one -/
theorem firsts_tups : ∀ (vs : List Value) (ds : List PyData) {Q : List (Option Value) → Shared → Prop}, EachIs (fun v d => ∃ as, Reads s.heap v d as) vs ds → (∀ d ∈ ds, ∃ xs, d = .tuple xs) → (∀ fs : List (Option Value), EachIs (fun f d => f.isSome = fullT d) fs ds → Q fs s) → wpAny (model prog w) A (vs.mapM firstOfTuple') Q E s
  | [], _, _, .nil, _, h => by rw [List.mapM_nil]; exact wpAny_pure (h [] .nil)
  | v :: vs, d :: ds, Q, .cons ⟨as, r⟩ t, ht, h => by
    obtain ⟨xs, rfl⟩ := ht d List.mem_cons_self
    rw [List.mapM_cons]
    refine wpAny_bind ?_
    rw [kas_first_eq]
    refine wpAny_bind ((looks_reads r).here ?_)
    rw [if_neg (by first | decide | simp [dataType])]
    cases r with
    | @tuple a o ys n _ _ h1 h2 h3 h4 =>
      refine wpAny_bind (listItems_at h1 h3 (wpAny_pure ?_))
      refine wpAny_bind (firsts_tups vs ds t (fun d hd => ht d (List.mem_cons_of_mem _ hd)) fun fs hfs => wpAny_pure (h _ (.cons ?_ hfs)))
      have n1 : ys.size = xs.length := by simpa using ReadsAll.length _ _ _ h4
      cases xs with
      | nil =>
        have : ys[0]? = none := by simp at n1; simp [n1]
        rw [this]
        rfl
      | cons x r =>
        have : 0 < ys.size := by rw [n1]; simp
        rw [Array.getElem?_eq_getElem this]
        rfl
theorem each_at {α β : Type} {R : α → β → Prop} : ∀ {as : List α} {bs : List β}, EachIs R as bs → ∀ b ∈ bs, ∃ a ∈ as, R a b
  | _, _, .nil, b, h => nomatch h
  | _, _, .cons h t, b, hb => by
    rcases List.mem_cons.mp hb with rfl | hb
    · exact ⟨_, List.mem_cons_self, h⟩
    · obtain ⟨a, ha, r⟩ := each_at t b hb
      exact ⟨a, List.mem_cons_of_mem _ ha, r⟩
theorem sortsAt_tuples {vs : List Value} {ds : List PyData} (e : EachIs (fun v d => ∃ as, Reads s.heap v d as) vs ds) (hal : AllAlike ds) (ht : ∀ d ∈ ds, ∃ xs, d = .tuple xs) (hu : ∀ d, d ∈ ds → A.units + d.depth < cLine) : SortsAt prog w A s (dataKind s.heap ds) vs := by
  have room : ∀ {d d' : PyData}, d ∈ ds → A.units + min d.depth d'.depth < cLine := fun {d d'} hd => Nat.lt_of_le_of_lt (Nat.add_le_add_left (Nat.min_le_left _ _) _) (hu d hd)
  by_cases hne : ∀ d ∈ ds, ∃ x r, d = .tuple (x :: r)
  · exact SortsAt.data e hal (.inl hne) hu
  have gen : H.LtAt prog w A s (dataKind s.heap ds) general' := by
    intro E x y a b Q ha hb hq
    obtain ⟨d, as, hd, ra, rfl⟩ := dataKind_inv ha
    obtain ⟨d', as', hd', rb, rfl⟩ := dataKind_inv hb
    obtain ⟨xs, rfl⟩ := ht d hd
    exact oneLt_alike (f := false) (fun h => nomatch h) ra rb (hal _ hd d' hd') (fun h => nomatch h) (room hd) hq
  have one : H.LtAt prog w A s (dataKind s.heap ds) oneType' := by
    intro E x y a b Q ha hb hq
    obtain ⟨d, as, hd, ra, rfl⟩ := dataKind_inv ha
    obtain ⟨d', as', hd', rb, rfl⟩ := dataKind_inv hb
    obtain ⟨xs, rfl⟩ := ht d hd
    obtain ⟨ys, rfl⟩ := ht d' hd'
    rw [keyLt'_oneType]
    exact oneLt_tuples ra rb (hal _ hd _ hd') (room hd) hq
  refine ⟨fun v hv => ?_, ?_⟩
  · obtain ⟨d, hd, as, r⟩ := e.left v hv
    exact ⟨_, dataKind_some hal hd r⟩
  · obtain ⟨d1, hd1, hd2⟩ : ∃ d ∈ ds, d = .tuple [] := by
      refine Classical.byContradiction fun hno => hne fun d hd => ?_
      obtain ⟨xs, rfl⟩ := ht d hd
      cases xs with
      | nil => exact absurd ⟨_, hd, rfl⟩ hno
      | cons x r => exact ⟨x, r, rfl⟩
    cases ds with
    | nil => cases hd1
    | cons d₀ ds₀ =>
      cases vs with
      | nil => cases e
      | cons v₀ vs₀ =>
        have notall : ∀ fs : List (Option Value), EachIs (fun f d => f.isSome = fullT d) fs (d₀ :: ds₀) → (fs.toArray.all fun x => x.isSome) = false := by
          intro fs hfs
          obtain ⟨f, hf, hfd⟩ := each_at hfs d1 hd1
          rw [hd2] at hfd
          simp only [List.all_toArray]
          rw [List.all_eq_false]
          exact ⟨f, hf, by rw [hfd]; simp [fullT]⟩
        by_cases h0 : d₀ = .tuple []
        · refine ⟨oneType', one, fun h2 E Q hq => ?_⟩
          rw [keyKind'_eq, List.mapM_toArray, map_eq_pure_bind]
          refine wpAny_bind (wpAny_bind (firsts_tups _ _ e ht fun fs hfs => wpAny_pure ?_))
          rw [if_neg (by rw [notall fs hfs]; simp)]
          cases hfs with
          | @cons f d fs' ds' hf hr =>
            rw [h0] at hf
            have hf' : f = none := by
              cases f with
              | none => rfl
              | some x => simp [fullT] at hf
            subst hf'
            rw [if_neg (by simp)]
            rw [oneTypeOnly'_eq, List.mapM_toArray, map_eq_pure_bind]
            refine wpAny_bind (wpAny_bind (wpAny_bind (kas_mapM (r := Value.type "tuple") _ (fun v hv Q' hq => ?_) (wpAny_pure ?_))))
            · obtain ⟨d, hd, as, r⟩ := e.left v hv
              obtain ⟨xs, rfl⟩ := ht d hd
              exact (looks_reads r).here hq
            · have hall : ((List.map (fun _ => Value.type "tuple") (v₀ :: vs₀)).toArray.all fun x => x == Value.type "tuple") = true := by
                simp only [List.all_toArray, List.all_map, List.all_eq_true]
                intro _ _
                exact beq_self_eq_true _
              have h0 : (List.map (fun _ => Value.type "tuple") (v₀ :: vs₀)).toArray[0]? = some (Value.type "tuple") := by simp
              rw [h0]
              simp only [hall, if_true]
              exact wpAny_pure (wpAny_pure hq)
        · refine ⟨general', gen, fun h2 E Q hq => ?_⟩
          rw [keyKind'_eq, List.mapM_toArray, map_eq_pure_bind]
          refine wpAny_bind (wpAny_bind (firsts_tups _ _ e ht fun fs hfs => wpAny_pure ?_))
          rw [if_neg (by rw [notall fs hfs]; simp)]
          cases hfs with
          | @cons f d fs' ds' hf hr =>
            obtain ⟨zs, rfl⟩ := ht d₀ List.mem_cons_self
            rw [fullT_of h0] at hf
            obtain ⟨x, rfl⟩ := Option.isSome_iff_exists.mp hf
            rw [if_pos (by simp)]
            exact wpAny_pure hq
def SortX (ds : List PyData) : Prop := Sortable ds ∨ ∀ d ∈ ds, ∃ xs, d = .tuple xs
theorem sortsAt_X {vs : List Value} {ds : List PyData} (e : EachIs (fun v d => ∃ as, Reads s.heap v d as) vs ds) (hal : AllAlike ds) (hk : SortX ds) (hu : ∀ d, d ∈ ds → A.units + d.depth < cLine) : SortsAt prog w A s (dataKind s.heap ds) vs := by
  rcases hk with hk | hk
  · exact SortsAt.data e hal hk hu
  · exact sortsAt_tuples e hal hk hu
variable {β : Type} {vs : List Value} {bs : List β} {enc : β → PyData} {R : Value → β → Prop}
theorem list_sort_X {a : Addr} {n : Nat} {Q : Value → Shared → Prop} (ho : s.heap.get? a = some (seqObj "list" vs.toArray n)) (e : EachIs R vs bs) (er : EachIs (fun v b => ∃ as, Reads s.heap v (enc b) as ∧ a ∉ as) vs bs) (hal : AllAlike (bs.map enc)) (hk : SortX (bs.map enc)) (hL : bs.length ≤ sizeLine)
    (hu : ∀ b, b ∈ bs → A.units + 1 + (enc b).depth < cLine) (h : ∀ out, out.length = bs.length → EachIs R out (bs.mergeSort (dataLe false enc)) → Q .none { s with heap := sortedHeap s.heap a vs (List.toArray out) }) :
    wpAny (model prog w) A (call (.builtin "list.sort") [.ref a]) Q E s := by
  have er' : EachIs (fun v b => ∃ as, Reads (sortingHeap s.heap a vs) v (enc b) as) vs bs := each_keepBut (h' := sortingHeap s.heap a vs) (fun _ _ hb q => sortingHeap_old hb q) (fun o q => by rw [ho] at q; rw [← Option.some.inj q]) hal er
  refine wpAny_call_entry PyProof.Rows.slot_list_sort ⟨_, ho, rfl⟩ PyProof.Rows.entry_list_sort (list_sort_vals (κ := dataKind (sortingHeap s.heap a vs) (bs.map enc)) ho (sortsAt_X (s := { s with heap := sortingHeap s.heap a vs }) (each_map (R := fun v d => ∃ as, Reads (sortingHeap s.heap a vs) v d as) enc er') hal hk (bound_map hu)) (by rw [e.length]; exact hL) ⟨.none, rfl, ?_⟩) (PyProof.Rows.args_list_sort _)
  exact h _ (by rw [sortVals_length false rfl]; exact e.length) (sortVals_data false e er' hal)
end
end BS
end
section
set_option Elab.async false
set_option linter.all false
set_option maxRecDepth 100000
set_option maxHeartbeats 4000000
namespace BS
open PySem PySem.Spec L2 PyProof.Rows DL
theorem lt_lexL : ∀ x y : List Int, decide (x < y) = lexL x y
  | [], [] => by simp [lexL]
  | [], y :: ys => by simp [lexL]
  | x :: xs, [] => by simp [lexL]
  | x :: xs, y :: ys => by
    rw [lexL, ← lt_lexL xs ys]
    by_cases h : x < y <;> by_cases h2 : x = y <;> by_cases h3 : xs < ys <;> simp [List.cons_lt_cons_iff, h, h2, h3]
theorem data_lexL (x y : List Int) : PySem.W.dataLt (.tuple (x.map .int)) (.tuple (y.map .int)) = lexL x y := by
  rw [PySem.W.dataLt_tuple]
  exact (PySem.W.dataLt_ints x y).trans (lt_lexL x y)
theorem alike_ints2 : ∀ x y : List Int, PySem.W.alikeAll (x.map .int) (y.map .int) = true
  | [], _ => by simp [PySem.W.alikeAll]
  | _ :: _, [] => by simp [PySem.W.alikeAll]
  | x :: xs, y :: ys => by simp [PySem.W.alikeAll, PySem.W.alike, alike_ints2 xs ys]
abbrev encT (q : Addr × List Int) : PyData := .tuple (q.2.map .int)
theorem le_lexL (p q : Addr × List Int) : PySem.W.dataLe false encT p q = !lexL q.2 p.2 := by
  show (!PySem.W.dataLt (encT q) (encT p)) = _
  rw [data_lexL]
theorem le_tr (x y z : Addr × List Int) (h1 : PySem.W.dataLe false encT x y = true) (h2 : PySem.W.dataLe false encT y z = true) : PySem.W.dataLe false encT x z = true := by
  rw [le_lexL] at *
  simp only [Bool.not_eq_true'] at *
  rcases lexL_tri z.2 x.2 with h | h | h
  · rcases lexL_tri x.2 y.2 with k | k | k
    · rw [lexL_tr h k] at h2; cases h2
    · rw [← k, h] at h2; cases h2
    · rw [k] at h1; cases h1
  · rw [h]; exact lexL_irr _
  · exact Bool.eq_false_iff.mpr fun e => by have := lexL_tr e h; rw [lexL_irr] at this; cases this
theorem le_tot (x y : Addr × List Int) : (PySem.W.dataLe false encT x y || PySem.W.dataLe false encT y x) = true := by
  rw [le_lexL, le_lexL]
  cases h : lexL y.2 x.2 with
  | false => rfl
  | true =>
    cases k : lexL x.2 y.2 with
    | false => rfl
    | true => have := lexL_tr h k; rw [lexL_irr] at this; cases this
theorem each_of {R : Value → (Addr × List Int) → Prop} : ∀ (l : List (Addr × List Int)), (∀ q ∈ l, R (Value.ref q.1) q) → PySem.W.EachIs R (l.map fun q => Value.ref q.1) l
  | [], _ => .nil
  | q :: l, h => .cons (h q List.mem_cons_self) (each_of l fun r hr => h r (List.mem_cons_of_mem _ hr))
theorem of_each : ∀ {out : List Value} {l : List (Addr × List Int)}, PySem.W.EachIs (fun v q => v = Value.ref q.1) out l → out = l.map fun q => Value.ref q.1
  | _, _, .nil => rfl
  | _, _, .cons h r => by rw [h, of_each r]; rfl
section
variable {P : Program} {w : World} {A : Around} {E : Value → Shared → Prop} {s : Shared}
theorem sorted_B {a : Addr} {L : List (Addr × List Int)} {es : Array (Int × Value)} {ep : Nat} {t : SetTable} {Q : Value → Shared → Prop} (R : SetB P w s.heap a L es ep t) (hh : A.handled = none) (hfew : L.length < 4000) (hu : A.units + 64 < cLine)
    (hQ : ∀ s' p (out : Array Value) (c : Nat) (L' : List (Addr × List Int)), (∀ b o, s.heap.get? b = some o → s'.heap.get? b = some o) → s'.gens = s.gens → s'.os = s.os → s.heap.objs.size ≤ p →
      s'.heap.get? p = some (seqObj "list" out c) → out.toList = L'.map (fun q => Value.ref q.1) → L'.Perm L → L'.Pairwise (fun q r => lexL r.2 q.2 = false) → Q (.ref p) s') :
    wpAny (model P w) A (call (.builtin "sorted") [.ref a]) Q E s := by
  obtain ⟨o, ho, hex, hd⟩ := R.ob
  have hsz := rows_len R.rows
  refine Calls.call_function_entry kind_sorted plain_sorted entry_sorted (args_sorted1 _) ?_
  unfold Builtin.«sorted»
  refine wpAny_bind (m := checkCount "sorted" 1 1 _) (wpAny_pure ?_)
  refine wpAny_bind (collect_set (A := A.in1) hh ⟨o, ho, hex.1, hd⟩ R.fits (by unfold scanBound; omega) R.tab.ris R.led fun s1 vs k1 hz g1 o1 pm => ?_)
  have hes : es.toList.map (·.2) = L.map fun q => Value.ref q.1 := by
    rw [R.rows]
    unfold rowsOf
    rw [List.map_map]
    rfl
  rw [hes] at pm
  have one : ∀ q ∈ L, ∀ r ∈ L, q.1 = r.1 → q = r := fun q hq r hr e => by
    have a1 := R.tup q hq
    have a2 := R.tup r hr
    rw [e] at a1
    exact Prod.ext e (a1.inj a2)
  obtain ⟨L1, rfl, hs⟩ : ∃ L1 : List (Addr × List Int), vs = L1.map (fun q => Value.ref q.1) ∧ ∀ q ∈ L1, q ∈ L := by
    have : ∀ vs : List Value, (∀ v ∈ vs, ∃ q ∈ L, v = Value.ref q.1) → ∃ L1 : List (Addr × List Int), vs = L1.map (fun q => Value.ref q.1) ∧ ∀ q ∈ L1, q ∈ L := by
      intro vs
      induction vs with
      | nil => exact fun _ => ⟨[], rfl, fun q hq => nomatch hq⟩
      | cons v vs ih =>
        intro hv
        obtain ⟨q, hq, rfl⟩ := hv v List.mem_cons_self
        obtain ⟨L1, rfl, hs⟩ := ih fun u hu => hv u (List.mem_cons_of_mem _ hu)
        refine ⟨q :: L1, rfl, fun r hr => ?_⟩
        rcases List.mem_cons.mp hr with rfl | z
        · exact hq
        · exact hs r z
    exact this vs fun v hv => by
      obtain ⟨q, hq, e⟩ := List.mem_map.mp (pm.mem_iff.mp hv)
      exact ⟨q, hq, e.symm⟩
  have p1 : L1.Perm L := by
    have nL : L.Nodup := nodup_of_map R.nd
    have nref : (L.map fun q => Value.ref q.1).Nodup := List.pairwise_map.mpr (List.Pairwise.imp_of_mem (fun {q r} hq hr hne e => by
      injection e with e
      exact hne (one q hq r hr e)) nL)
    refine (List.perm_ext_iff_of_nodup (nodup_of_map (pm.nodup_iff.mpr nref)) nL).mpr fun q => ⟨hs q, fun hq => ?_⟩
    obtain ⟨r, hr, e⟩ := List.mem_map.mp (pm.mem_iff.mpr (List.mem_map.mpr ⟨q, hq, rfl⟩))
    injection e with e
    rw [← one r (hs r hr) q hq e]
    exact hr
  have hl1 := p1.length_eq
  refine wpAny_bind (wpAny_newList ?_ (by rw [sizeLine_eq, List.length_map]; omega))
  generalize hvs : (L1.map fun q => Value.ref q.1) = vs
  have hoL : (s1.heap.push (seqObj "list" vs.toArray 0)).get? s1.heap.objs.size = some (seqObj "list" vs.toArray 0) := Heap.get?_push_size _ rfl
  have rd : ∀ q ∈ L1, Reads (s1.heap.push (seqObj "list" vs.toArray 0)) (.ref q.1) (encT q) [] := fun q hq => by
    obtain ⟨ob, items, n, h1, h2, h3, h4⟩ := isT_keep (R.tup q (hs q hq)) fun b u e => Heap.get?_push_of_some _ (k1 b u e)
    exact .tuple h1 h2 h3 (readsAll_of (ints_of_items h4))
  refine wpAny_bind (wpAny_holding (BS.list_sort_X (s := { s1 with heap := s1.heap.push (seqObj "list" vs.toArray 0) }) (enc := encT) (bs := L1) (R := fun v q => v = Value.ref q.1) hoL (by rw [← hvs]; exact each_of L1 fun q _ => rfl) (by rw [← hvs]; exact each_of L1 fun q hq => ⟨[], by rw [hvs]; exact rd q hq, fun z => nomatch z⟩)
    (fun d hd d' hd' => ?_) (.inr fun d hd => ?_) (by rw [sizeLine_eq]; omega) (fun b hb => ?_) fun out a1 a2 => ?_))
  · obtain ⟨q, _, rfl⟩ := List.mem_map.mp hd
    obtain ⟨r, _, rfl⟩ := List.mem_map.mp hd'
    exact alike_ints2 q.2 r.2
  · obtain ⟨q, hq, rfl⟩ := List.mem_map.mp hd
    exact ⟨_, rfl⟩
  · have : (encT b).depth ≤ 1 := by
      simp only [encT, PyData.depth, dep_ints]
      omega
    show A.units + 1 + _ + _ < _
    omega
  · obtain ⟨c, hc⟩ := sortedHeap_at (vs := vs) (out := List.toArray out) hoL
    refine wpAny_pure ⟨_, rfl, hQ _ s1.heap.objs.size (List.toArray out) c (L1.mergeSort (PySem.W.dataLe false encT)) (fun b u e => ?_) g1 o1 hz hc (by simpa using of_each a2) ((List.mergeSort_perm _ _).trans p1) ?_⟩
    · have q := k1 b u e
      have hlt := Heap.lt_size q
      show (sortedHeap (s1.heap.push (seqObj "list" vs.toArray 0)) s1.heap.objs.size vs (List.toArray out)).get? b = some u
      rw [sortedHeap_old (Nat.ne_of_lt hlt) (by rw [size_push']; exact Nat.lt_succ_of_lt hlt)]
      exact Heap.get?_push_of_some _ q
    · refine List.Pairwise.imp (fun {q r} h => ?_) (List.pairwise_mergeSort le_tr le_tot L1)
      rw [le_lexL] at h
      simpa using h
end
end BS
end
section
set_option Elab.async false
set_option linter.all false
set_option maxRecDepth 100000
set_option maxHeartbeats 4000000
namespace BS
open PySem PySem.Spec L2 PyProof.Rows DL
def SetB0 (P : Program) (w : World) (h : Heap) (a : Addr) (L : List (Addr × List Int)) : Prop :=
  ∃ (es : Array (Int × Value)) (ep : Nat) (t : SetTable), (∃ o, h.get? a = some o ∧ o.ExactSet ∧ o.data = .set es ep t) ∧ es.toList = rowsOf P w L ∧ Tb t (L.map fun p => thash P w p.2) ∧ (L.map (·.2)).Nodup ∧ t.plain = true ∧
    (w.params.followText "set-order" = true ∨ t.led = true) ∧ L.length * 5 < t.mask * 3
def SetBO (P : Program) (w : World) (a : Addr) (L : List (Addr × List Int)) : HO := .ext fun h => SetB0 P w h a L
theorem SetB.b0 {P : Program} {w : World} {h : Heap} {a : Addr} {L : List (Addr × List Int)} {es : Array (Int × Value)} {ep : Nat} {t : SetTable} (R : SetB P w h a L es ep t) : SetB0 P w h a L := ⟨es, ep, t, R.ob, R.rows, R.tab, R.nd, R.plain, R.led, R.room⟩
theorem setBO_new {P : Program} {w : World} {H : Hp} {h : Heap} {a : Addr} {L : List (Addr × List Int)} (R : SetB0 P w h a L) : ObjOk P w H h a (SetBO P w a L) := by
  have ⟨es, ep, t, ⟨o, ho, r⟩, q⟩ := R
  refine ⟨R, ⟨o, ho⟩, fun h1 h2 p k => ?_⟩
  obtain ⟨es, ep, t, ⟨o, ho, r⟩, q⟩ := p
  exact ⟨es, ep, t, ⟨o, k o ho, r⟩, q⟩
section
variable {X : Cx}
def rSetB (K : PySem.W.Frag) (P : Program) (w : World) : List V → Hp → VK → Prop := fun xs H Q => ∃ (l : Addr) (ks : List (Addr × List Int)), xs = [V.ref l] ∧ (SqL K H l (ks.map fun p => V.ref p.1) ∨ SqT K H l (ks.map fun p => V.ref p.1)) ∧ (∀ p ∈ ks, SqT K H p.1 (p.2.map V.int)) ∧ ks.length < 4000 ∧
  ∀ a L, H a = none → (∀ p ∈ L, p ∈ ks) → (∀ p ∈ ks, p.2 ∈ L.map (·.2)) → L.length ≤ ks.length → Q (.ref a) (upd H a (SetBO P w a L))
theorem cr_setB (hc : X.calm = true) (hu : X.A.units + 64 < cLine) : CallR X (.type "set") (rSetB X.K X.prog X.w) := by
  intro pins s σ H xs us Q I r h
  obtain ⟨l, ks, rfl, hl, hk, hf, q⟩ := h
  rw [Vals.ref1 r]
  have hn : H s.heap.objs.size = none := I.hok.fresh (Nat.le_refl _)
  have fin : ∀ (h' : Heap) (tk : Nat) L es ep t, SetB X.prog X.w h' s.heap.objs.size L es ep t → Got ks ks.length L → (∀ b o, s.heap.get? b = some o → h'.get? b = some o) → ∃ x H', Inv X pins σ H' { s with heap := h', toks := tk } ∧ RelV x (.ref s.heap.objs.size) ∧ Q x H' := fun h' tk L es ep t R g k =>
    ⟨.ref s.heap.objs.size, upd H s.heap.objs.size (SetBO X.prog X.w s.heap.objs.size L), I.laid (t' := tk) k (Nat.le_refl _) (setBO_new R.b0), rfl, q _ L hn (fun p hp => List.mem_of_mem_take (g.sub p hp)) (fun p hp => g.all p (by rw [List.take_length]; exact hp)) g.len⟩
  rcases hl with hl | hl
  · obtain ⟨its, rv, pl, hz⟩ := I.list hl
    exact call_set_list (P := X.prog) (w := X.w) ks (I.ok.hd hc) pl.isList (by simpa using refs_of_vals rv) (fun p hp => I.isT (hk p hp)) hf (by omega) fin
  · obtain ⟨its, rv, ⟨ol, o1, o2, n, o3⟩, hz⟩ := I.tuple hl
    exact call_set_tuple (P := X.prog) (w := X.w) ks (I.ok.hd hc) ⟨ol, o1, o2, n, o3⟩ (by simpa using refs_of_vals rv) (fun p hp => I.isT (hk p hp)) hf (by omega) fin
def rSortedB (K : PySem.W.Frag) (P : Program) (w : World) : List V → Hp → VK → Prop := fun vs H Q => ∃ (a : Addr) (L : List (Addr × List Int)), vs = [V.ref a] ∧ H a = some (SetBO P w a L) ∧ (∀ p ∈ L, SqT K H p.1 (p.2.map V.int)) ∧ L.length < 4000 ∧
  ∀ (L' : List (Addr × List Int)) (p : Addr), L'.Perm L → (L'.map (·.2)).Nodup → L'.Pairwise (fun q r => lexL r.2 q.2 = false) → H p = none → Q (.ref p) (upd H p (.lst (L'.map fun q => V.ref q.1)))
theorem cr_sortedB (hc : X.calm = true) (hu : X.A.units + 64 < cLine) : CallR X (.builtin "sorted") (rSortedB X.K X.prog X.w) := by
  intro pins s σ H vs us Q I r h
  obtain ⟨a, L, rfl, ha, hk, hf, q⟩ := h
  obtain ⟨es, ep, t, r1, r2, r3, r4, r5, r6, r7⟩ : SetB0 X.prog X.w s.heap a L := (I.hok a _ ha).1
  rw [Vals.ref1 r]
  refine sorted_B (P := X.prog) (w := X.w) ⟨r1, r2, r3, r4, fun p hp => I.isT (hk p hp), r5, r6, r7⟩ (I.ok.hd hc) hf hu fun s' p out c L' k g o hp hg hout pm pw => ?_
  have hlen : (L'.map fun q => V.ref q.1).length ≤ sizeLine := by rw [List.length_map, sizeLine_eq, pm.length_eq]; omega
  have hn : H p = none := I.hok.fresh hp
  have hv : Vals (L'.map fun q => V.ref q.1) out.toList := by rw [hout]; exact vals_of_refs L'
  have J : Inv X pins σ (upd H p (.lst (L'.map fun q => V.ref q.1))) { s with heap := s'.heap, gens := s'.gens, drawn := s'.drawn, toks := s'.toks } :=
    I.call (ch := []) (Un.laid k hp hn) (I.hok.laid k hp ⟨hlen, out.toList, c, hv, hg⟩) (by rw [g]; exact I.bare) (fun _ z => nomatch z)
  have e : s' = { s with heap := s'.heap, gens := s'.gens, drawn := s'.drawn, toks := s'.toks } := by
    cases s'
    cases s
    cases o
    rfl
  rw [e]
  exact ⟨.ref p, _, J, rfl, q L' p pm ((pm.map (·.2)).nodup_iff.mpr r4) pw hn⟩
end
section
variable {P : Program} {w : World} {K : PySem.W.Frag} {mg : Str → Option Value} {base : Heap} {X : Cx} {N : List Str} {sc fs : Scope} {k : Nat}
/-- sorted(set(x)) -/
def qSortB (m : Bool) (te : TD) : TD := fun ε st Q => te ε st fun x s1 => match sitems s1 x with
  | some l => (match tints l with
    | some ts => ts.length < 4000 ∧ newL m ((sortU ts).map fun a => .d (.tuple (a.map .int))) s1 Q
    | none => False)
  | none => False
theorem de_sortB {e : Expr} {te : TD} {p p2 pos pos2 : Pos} (m : Bool) (c : Cok P w K mg base X N sc fs k) (hg : glB sc "sorted" = true) (hm : mg "sorted" = none) (hg2 : glB sc "set" = true) (hm2 : mg "set" = none) (ha : DE X e te)
    (he : starEach [e] X.env = (false, eval e X.env) :: starEach [] X.env := by rfl) : DE X (.Call (.Name "sorted" p) [.Call (.Name "set" p2) [e] [] pos2] [] pos) (qSortB m te) := by
  obtain ⟨t1, p1, a1⟩ := ha
  have g := gl_of c hg
  have g2 := gl_of c hg2
  have hc := c.calm
  refine ⟨⟨_, pe_callB (cr_sortedB hc c.hu65) g.1 (by rw [c.hmg]; exact hm) bb_sorted (pa_cons (pe_callTy (cr_setB hc c.hu65) g2.1 (by rw [c.hmg]; exact hm2) bt_set (pa_cons p1 pa_nil he) g2.2.1 g2.2.2 he rfl) pa_nil rfl) g.2.1 g.2.2 rfl rfl, fun F σ H ε st Qd Q R E h kk => ?_⟩⟩
  refine a1.go (W := fun x H1 => _) R E h kk fun F1 H1 s1 v y R1 E1 rv q kk => ?_
  split at q
  rotate_left
  · exact q.elim
  rename_i l el
  split at q
  rotate_left
  · exact q.elim
  rename_i ts et
  obtain ⟨hf, q⟩ := q
  obtain ⟨pa, vs, rfl, hq, s⟩ := sitems_rv R1 rv el
  obtain ⟨ks, rfl, rfl, hF⟩ := tints_rvs s et
  rw [List.length_map] at hf
  have hk : ∀ z ∈ ks, SqT X.K H1 z.1 (z.2.map V.int) := fun z hz => SqT.of (R1.sub _ _ (hF z hz)).1
  refine ⟨pa, ks, rfl, hq, hk, hf, fun a L ha h1 h2 hlen => ?_⟩
  obtain ⟨R2, S2⟩ := R1.hide (o := SetBO X.prog X.w a L) ha
  refine ⟨a, L, rfl, upd_same, fun z hz => SqT.of (R2.sub _ _ (hF z (h1 z hz))).1, by omega, fun L' pp pm nd pw hp => ?_⟩
  have hL : ∀ z ∈ L', z ∈ ks := fun z hz => h1 z (pm.mem_iff.mp hz)
  have e : sortU (ks.map (·.2)) = L'.map (·.2) := by
    refine sortU_eq ?_ fun x => ?_
    · refine List.pairwise_map.mpr ?_
      have nd' : L'.Pairwise fun q r => q.2 ≠ r.2 := List.pairwise_map.mp nd
      refine List.Pairwise.imp (fun {y z} hyz => ?_) (List.Pairwise.and nd' pw)
      rcases lexL_tri y.2 z.2 with e | e | e
      · exact e
      · exact absurd e hyz.1
      · rw [hyz.2] at e; cases e
    · constructor
      · intro hx
        obtain ⟨z, hz, rfl⟩ := List.mem_map.mp hx
        obtain ⟨z', hz', e⟩ := List.mem_map.mp (h2 z hz)
        exact List.mem_map.mpr ⟨z', pm.mem_iff.mpr hz', e⟩
      · intro hx
        obtain ⟨z, hz, rfl⟩ := List.mem_map.mp hx
        exact List.mem_map.mpr ⟨z, hL z hz, rfl⟩
  rw [e, List.map_map] at q
  refine new_lst R2 (m := m) ?_ hp q fun F' b H' b' st' S3 R3 r3 q3 => kk F' b H' b' st' (S2.trans S3) R3 r3 q3
  have : ∀ L'' : List (Addr × List Int), (∀ z ∈ L'', z ∈ ks) → RVs X.K F1 (L''.map fun q => V.ref q.1) (L''.map ((fun a => DV.d (.tuple (a.map .int))) ∘ (·.2))) := by
    intro L''
    induction L'' with
    | nil => exact fun _ => .nil
    | cons z r ih => exact fun hz => .cons (.d (.tup (hF z (hz z List.mem_cons_self)) (rp_all z.2))) (ih fun y hy => hz y (List.mem_cons_of_mem _ hy))
  exact this L' hL
end
end BS
end
section
set_option Elab.async false
set_option linter.all false
set_option maxRecDepth 100000
set_option maxHeartbeats 4000000
namespace DL
open PySem PySem.Spec L2 PyProof.Rows
section
variable {X : Cx}
abbrev leD : PyData → PyData → Bool := PySem.W.dataLe false id
end
section
variable {P : Program} {w : World} {K : PySem.W.Frag} {mg : Str → Option Value} {base : Heap} {X : Cx} {N : List Str} {sc fs : Scope} {k : Nat}
/-- sorted(x) of a list of data -/
def qSortD (m : Bool) (te : TD) : TD := fun ε st Q => te ε st fun x s1 => match (litems s1 x).bind datas with
  | some ds => PySem.W.AllAlike ds ∧ BS.SortX ds ∧ ds.length ≤ 100000 ∧ (∀ d ∈ ds, d.depth ≤ 16) ∧ newL m ((ds.mergeSort leD).map .d) s1 Q
  | none => False
end
end DL
end
section
set_option Elab.async false
set_option linter.all false
set_option maxRecDepth 100000
set_option maxHeartbeats 4000000
namespace DL
open PySem PySem.Spec L2 PyProof.Rows
section
variable {X : Cx}
def rInX (K : PySem.W.Frag) (neg : Bool) : R2 := fun x y H Q => ∃ d ds, Dp K H x d ∧ (Dp K H y (.list ds) ∨ Dp K H y (.tuple ds)) ∧ d.canLay0 = true ∧ d.depth ≤ 32 ∧ PyData.canLayAll0 ds = true ∧ Q (.bl (if neg then !(ds.any fun z => PyData.eqv z d) else ds.any fun z => PyData.eqv z d)) H
theorem op_notInX (hu : X.A.units + 64 < cLine) : OpR X (compareOp .NotIn) (rInX X.K true) := by
  intro pins s σ H x y v u Q I rx ry h
  obtain ⟨d, ds, hd, he, sd, dd, se, q⟩ := h
  obtain ⟨as, r1⟩ := Dp.reads I d x v hd rx
  have room : X.A.units + 1 + min (PyData.depthAll ds) d.depth < cLine := by
    have := Nat.min_le_right (PyData.depthAll ds) d.depth
    omega
  rcases he with he | he
  · obtain ⟨bs, r2⟩ := Dp.reads I (.list ds) y u he ry
    exact SeqAt.notIn_list_reads r2 r1 se sd room ⟨.bl _, H, I, rfl, q⟩
  · obtain ⟨bs, r2⟩ := Dp.reads I (.tuple ds) y u he ry
    exact SeqAt.notIn_tuple_reads r2 r1 se sd room ⟨.bl _, H, I, rfl, q⟩
def seqD : PyData → Option (List PyData)
  | .list ds => some ds
  | .tuple ds => some ds
  | _ => none
def qIn (neg : Bool) : R2D := fun x y st Q => match fz st x, (fz st y).bind seqD with
  | some d, some ds => d.canLay0 = true ∧ d.depth ≤ 32 ∧ PyData.canLayAll0 ds = true ∧ Q (.d (.bool (if neg then !(ds.any fun z => PyData.eqv z d) else ds.any fun z => PyData.eqv z d))) st
  | _, _ => False
theorem s2_in {K : PySem.W.Frag} {neg : Bool} : S2 K (rInX K neg) (qIn neg) := fun F H st v w x y Qd Q R rv rw' h kk => by
  unfold qIn at h
  split at h
  rotate_left
  · exact h.elim
  rename_i d ds e1 e2
  obtain ⟨c, e3, e4⟩ := Option.bind_eq_some_iff.mp e2
  obtain ⟨h1, h2, h3, q⟩ := h
  have hc := fz_dp R rw' e3
  refine ⟨d, ds, fz_dp R rv e1, ?_, h1, h2, h3, kk.at R (.d (.bl _)) q⟩
  cases c with
  | list l => cases e4; exact .inl hc
  | tuple l => cases e4; exact .inr hc
  | _ => cases e4
theorem op_qNotIn (hu : X.A.units + 64 < cLine) : ∃ r', OpR X (compareOp .NotIn) r' ∧ S2 X.K r' (qIn true) := ⟨_, op_notInX hu, s2_in⟩
end
theorem any_int (a : List Int) (i : Int) : ((a.map PyData.int).any fun z => PyData.eqv z (.int i)) = decide (i ∈ a) := by
  rw [Bool.eq_iff_iff, List.any_map, List.any_eq_true, decide_eq_true_eq]
  constructor
  · rintro ⟨j, hj, h⟩
    simp only [Function.comp, PyData.eqv] at h
    have : j = i := by simpa using h
    rw [← this]
    exact hj
  · intro h
    exact ⟨i, h, by simp [Function.comp, PyData.eqv]⟩
theorem lay_ints (a : List Int) : PyData.canLayAll0 (a.map PyData.int) = true := by
  induction a with
  | nil => simp [PyData.canLayAll0]
  | cons x a ih => simp [PyData.canLayAll0, PyData.canLay0, ih]
theorem qIn_IT (neg : Bool) (i : Int) (a : List Int) (st : Sto) (Q : DV → Sto → Prop) : qIn neg (.d (.int i)) (.d (.tuple (a.map .int))) st Q = Q (.d (.bool (if neg then !decide (i ∈ a) else decide (i ∈ a)))) st := by
  unfold qIn
  simp only [fz, Option.bind_some, seqD, any_int, lay_ints, PyData.canLay0, PyData.depth, Nat.zero_le, true_and]
theorem qIn_IL (neg : Bool) (i : Int) (a : List Int) (st : Sto) (Q : DV → Sto → Prop) : qIn neg (.d (.int i)) (.d (.list (a.map .int))) st Q = Q (.d (.bool (if neg then !decide (i ∈ a) else decide (i ∈ a)))) st := by
  unfold qIn
  simp only [fz, Option.bind_some, seqD, any_int, lay_ints, PyData.canLay0, PyData.depth, Nat.zero_le, true_and]
theorem eqvAll_ints : ∀ a b : List Int, PyData.eqvAll (a.map .int) (b.map .int) = decide (a = b)
  | [], [] => by simp [PyData.eqvAll]
  | [], y :: ys => by simp [PyData.eqvAll]
  | x :: xs, [] => by simp [PyData.eqvAll]
  | x :: xs, y :: ys => by
    rw [List.map_cons, List.map_cons, PyData.eqvAll, eqvAll_ints xs ys, PyData.eqv]
    by_cases h1 : x = y <;> by_cases h2 : xs = ys <;> simp [h1, h2]
theorem any_tup (l : List (List Int)) (a : List Int) : ((l.map fun b => PyData.tuple (b.map .int)).any fun z => PyData.eqv z (.tuple (a.map .int))) = decide (a ∈ l) := by
  rw [Bool.eq_iff_iff, List.any_map, List.any_eq_true, decide_eq_true_eq]
  constructor
  · rintro ⟨b, hb, h⟩
    simp only [Function.comp, PyData.eqv, eqvAll_ints, decide_eq_true_eq] at h
    rw [← h]
    exact hb
  · intro h
    exact ⟨a, h, by simp only [Function.comp, PyData.eqv, eqvAll_ints, decide_true]⟩
theorem lay_tups (l : List (List Int)) : PyData.canLayAll0 (l.map fun b => PyData.tuple (b.map .int)) = true := by
  induction l with
  | nil => simp [PyData.canLayAll0]
  | cons x a ih => simp only [List.map_cons, PyData.canLayAll0, PyData.canLay0, ih, lay_ints, Bool.and_self]
theorem dep_tup (a : List Int) : (PyData.tuple (a.map .int)).depth ≤ 32 := by
  have : PyData.depthAll (a.map .int) = 0 := dep_ints a
  simp only [PyData.depth, this]
  omega
theorem qIn_TT (neg : Bool) (a : List Int) (l : List (List Int)) (st : Sto) (Q : DV → Sto → Prop) : qIn neg (.d (.tuple (a.map .int))) (.d (.tuple (l.map fun b => .tuple (b.map .int)))) st Q = Q (.d (.bool (if neg then !decide (a ∈ l) else decide (a ∈ l)))) st := by
  have h := dep_tup a
  unfold qIn
  simp only [fz, Option.bind_some, seqD, any_tup, lay_tups, lay_ints, PyData.canLay0, h, true_and]
theorem qIn_TL (neg : Bool) (a : List Int) (l : List (List Int)) (st : Sto) (Q : DV → Sto → Prop) : qIn neg (.d (.tuple (a.map .int))) (.d (.list (l.map fun b => .tuple (b.map .int)))) st Q = Q (.d (.bool (if neg then !decide (a ∈ l) else decide (a ∈ l)))) st := by
  have h := dep_tup a
  unfold qIn
  simp only [fz, Option.bind_some, seqD, any_tup, lay_tups, lay_ints, PyData.canLay0, h, true_and]
end DL
end
section
set_option Elab.async false
set_option linter.all false
set_option maxRecDepth 100000
set_option maxHeartbeats 2000000
namespace L2
open PySem PySem.Spec PyProof.Rows
end L2
namespace BS
open PySem PySem.Spec L2 PyProof.Rows DL
section
variable {X : Cx}
def keyInt : Key → Int
  | .inl i => i
  | .inr _ => 0
theorem keyInts_inl (ns : List Int) : (ns.map Sum.inl : List Key).map keyInt = ns := by
  induction ns with
  | nil => rfl
  | cons n ns ih => rw [List.map_cons, List.map_cons, ih]; rfl
def IntKeys {β : Type} (kvs : List (List Key × β)) : Prop := ∀ p ∈ kvs, ∃ ns : List Int, p.1 = ns.map Sum.inl
end
end BS
namespace DL
open PySem PySem.Spec L2 PyProof.Rows
section
variable {P : Program} {w : World} {K : PySem.W.Frag} {mg : Str → Option Value} {base : Heap} {X : Cx} {N : List Str} {sc fs : Scope} {k : Nat}
def tupD (a : List Int) : DV := .d (.tuple (a.map .int))
def keyX (x : DV) : Option (List Key) := match titems x with | some ys => keyT ys | none => none
/-- {k: v}, k a tuple -/
def qDispT (tk tv : TD) : TD := fun ε st Q => tk ε st fun x s1 => tv ε s1 fun y s2 => match keyX x with
  | some q => ∀ p, s2 p = none → Q (.r p) (up s2 p (.dT [(q, y)]))
  | none => False
end
end DL
end
section
set_option Elab.async false
set_option linter.all false
set_option maxRecDepth 100000
set_option maxHeartbeats 2000000
namespace DL
open PySem PySem.Spec L2 PyProof.Rows
section
variable {P : Program} {w : World} {K : PySem.W.Frag} {mg : Str → Option Value} {base : Heap} {X : Cx} {N : List Str} {sc fs : Scope} {k : Nat}
def isDM : Option MO → Bool
  | some (.dK _) => true
  | some (.dT _) => true
  | some (.lk _ _ _) => true
  | _ => false
/-- d.get(k, x) -/
def qGet (td ty tx : TD) : TD := fun ε st Q => td ε st fun x s1 => match x with
  | .r a => isDM (s1 a) = true ∧ ty ε s1 fun y s2 => tx ε s2 fun z s3 => match dlook (s3 a) y with
    | some o => Q (o.getD z) s3
    | none => False
  | _ => False
end
end DL
end
section
set_option Elab.async false
set_option linter.all false
set_option maxRecDepth 100000
set_option maxHeartbeats 2000000
namespace L2
open PySem PySem.Spec PyProof.Rows
end L2
namespace DL
open PySem PySem.Spec L2 PyProof.Rows
section
variable {P : Program} {w : World} {K : PySem.W.Frag} {mg : Str → Option Value} {base : Heap} {X : Cx} {N : List Str} {sc fs : Scope} {k : Nat}
/-- the pairs of a dict with tuples of ints as keys -/
def itemsD (kvs : List (List Key × DV)) : List DV := kvs.map fun p => mkT [tupD (p.1.map BS.keyInt), p.2]
/-- .. in e.items(), the dict locked -/
def qiItems (te : TD) : TDi := fun ε st Q => te ε st fun x s1 => match x with
  | .r a => (match s1 a with
    | some (.lk o ws kvs) => BS.IntKeys kvs ∧ Q (itemsD kvs) (fun s => s a = some (.lk o ws kvs)) s1
    | _ => False)
  | _ => False
/-- the expression runs while the dict in slot i is locked -/
def qLockE (i : Nat) (te : TD) : TD := fun ε st Q => match ε[i]? with
  | some (some (.r a)) => (match st a with
    | some (.dT kvs) => ∀ o ws, te ε (up st a (.lk o ws kvs)) fun v s1 => s1 a = some (.lk o ws kvs) ∧ Q v (up s1 a (.dT kvs))
    | _ => False)
  | _ => False
/-- the statement runs while the dict in slot i is locked -/
def qLockS (i : Nat) (t : TDs) : TDs := fun D ε st => match ε[i]? with
  | some (some (.r a)) => (match st a with
    | some (.dT kvs) => ∀ o ws, t { nx := fun ε1 s1 => s1 a = some (.lk o ws kvs) ∧ D.nx ε1 (up s1 a (.dT kvs)), rt := fun x s1 => s1 a = some (.lk o ws kvs) ∧ D.rt x (up s1 a (.dT kvs)), bk := fun ε1 s1 => s1 a = some (.lk o ws kvs) ∧ D.bk ε1 (up s1 a (.dT kvs)), ct := fun ε1 s1 => s1 a = some (.lk o ws kvs) ∧ D.ct ε1 (up s1 a (.dT kvs)) } ε (up st a (.lk o ws kvs))
    | _ => False)
  | _ => False
end
end DL
end
section
set_option Elab.async false
set_option linter.all false
set_option maxRecDepth 100000
set_option maxHeartbeats 2000000
namespace DTK
open PySem PySem.W PySem.Calls PyProof.Rows PyProof.V PySem.Spec
section
variable {prog : Program} {w : World} {A : Around} {E : Value → Shared → Prop} {s : Shared} {r d : Addr} {es : Array DictEntry} {ep : Nat}
theorem listItems {Q : Value → Shared → Prop} (hh : A.handled = none) (hv : s.heap.IsItemsView r d) (hm : DT.Raw s.heap d es ep) (hn : es.size ≤ sizeLine)
    (hQ : ∀ h' tk acc c as, (∀ b o, s.heap.get? b = some o → h'.get? b = some o) → h'.get? s.heap.objs.size = some { cls := .type "list", dict := none, data := .seq acc c, slots := #[] } → as.length = es.size → DT.Made es s.heap.objs.size h' as →
      acc.toList = as.map Value.ref → Q (.ref s.heap.objs.size) { s with heap := h', toks := tk }) : wpAny (model prog w) A (call (.type "list") [.ref r]) Q E s := by
  have hr : r < s.heap.objs.size := let ⟨_, ho, _⟩ := hv; Heap.lt_size ho
  have hd : d < s.heap.objs.size := hm.lt
  refine callType_codes (Q₁ := fun obj s₁ => obj = .ref s.heap.objs.size ∧ s₁ = { s with heap := s.heap.push { cls := .type "list", data := .seq #[] } }) PySem.F.called_list (PySem.F.typeCall_list_1 _) PySem.F.entry_list_init
    (code_list_new _ ⟨rfl, rfl⟩) fun obj s₁ h₁ => ?_
  obtain ⟨rfl, rfl⟩ := h₁
  have hS : (s.heap.push { cls := .type "list", data := .seq #[] }).get? s.heap.objs.size = some { cls := .type "list", data := .seq #[] } := Heap.get?_push_size _ rfl
  refine ⟨⟨_, hS, rfl⟩, PySem.F.args_list_init_2 _ _, ?_⟩
  show wpAny _ _ (do let old ← Builtin.List.listItems (.ref s.heap.objs.size); Builtin.List.listUpdate (.ref s.heap.objs.size) (fun _ => #[]); letGo old.toList.reverse; Builtin.List.listExtendWith (.ref s.heap.objs.size) (.ref r) .none) _ _ _
  refine wpAny_bind ?_
  unfold Builtin.List.listItems
  refine wpAny_bind (wpAny_seqItems hS rfl (wpAny_pure ?_))
  show wpAny _ _ (updateSeq s.heap.objs.size (fun _ => #[]) >>= fun _ => letGo (#[] : Array Value).toList.reverse >>= fun _ => Builtin.List.listExtendWith (.ref s.heap.objs.size) (.ref r) .none) _ _ _
  refine wpAny_bind (wpAny_updateSeq hS rfl ?_)
  have hS₂ := Heap.get?_update_self (Obj.mapSeq (fun _ => (#[] : Array Value))) hS rfl
  have oth : ∀ b o, s.heap.get? b = some o → ((s.heap.push { cls := .type "list", data := .seq #[] }).update s.heap.objs.size (Obj.mapSeq (fun _ => (#[] : Array Value)))).get? b = some o :=
    fun b o e => (Heap.get?_update_other _ _ (Ne.symm (Nat.ne_of_lt (Heap.lt_size e)))).trans (Heap.get?_push_of_some _ e)
  obtain ⟨c0, e0⟩ : ∃ c0, (Obj.mapSeq (fun _ => (#[] : Array Value)) { cls := .type "list", data := .seq #[] } : Obj) = { cls := .type "list", data := .seq #[] c0 } := ⟨_, rfl⟩
  rw [e0] at hS₂
  refine wpAny_bind (wpAny_letGo ?_)
  refine DT.extI (prog := prog) (w := w) (A := A.in1) (R := wants (fun r s₂ => r = Value.none ∧ Q (.ref s.heap.objs.size) s₂) E) (s := { s with heap := (s.heap.push { cls := .type "list", data := .seq #[] }).update s.heap.objs.size (Obj.mapSeq (fun _ => (#[] : Array Value))) }) (es := es) (ep := ep) hh (let ⟨o, ho, x⟩ := hv; ⟨o, oth _ _ ho, x⟩) (hm.at' fun o e => oth _ _ e) s.heap.objs.size (Nat.ne_of_gt hr) (Nat.ne_of_lt hd) .none c0 hS₂ (fun h' tk acc c as hk hS' hl hG hacc => ?_) hn
  refine ⟨rfl, hQ h' tk acc c as (fun b o e => hk b o (Nat.ne_of_lt (Heap.lt_size e)) (oth b o e)) hS' hl (hG.low ?_) hacc⟩
  exact Nat.le_of_lt (Heap.lt_size hS₂)
end
end DTK
namespace L2.DX
open PySem PySem.Spec PyProof.Rows
end L2.DX
namespace DL
open PySem PySem.Spec L2 PyProof.Rows
section
variable {P : Program} {w : World} {K : PySem.W.Frag} {mg : Str → Option Value} {base : Heap} {X : Cx} {N : List Str} {sc fs : Scope} {k : Nat}
/-- list(e.items()) -/
def qListItems (m : Bool) (te : TD) : TD := fun ε st Q => te ε st fun x s1 => match x with
  | .r a => (match s1 a with
    | some (.dT kvs) => BS.IntKeys kvs ∧ newL m (itemsD kvs) s1 Q
    | _ => False)
  | _ => False
end
end DL
end
section
set_option Elab.async false
set_option linter.all false
set_option maxRecDepth 100000
set_option maxHeartbeats 2000000
namespace DL
open PySem PySem.Spec L2 PyProof.Rows
section
variable {P : Program} {w : World} {K : PySem.W.Frag} {mg : Str → Option Value} {base : Heap} {X : Cx} {N : List Str} {sc fs : Scope} {k : Nat}
/-- xs.pop() -/
def qPop (to : TD) : TD := fun ε st Q => to ε st fun x s1 => match x with
  | .r a => ∃ xs y, s1 a = some (.lst xs) ∧ xs[xs.length - 1]? = some y ∧ Q y (up s1 a (.lst xs.dropLast))
  | _ => False
def keyPD : Key → DV
  | .inl i => .d (.int i)
  | .inr s => .d (.str s)
/-- list(d), scalar keys -/
def qListDK (m : Bool) : RLD := fun xs st Q => match xs with
  | [.r a] => (match st a with
    | some (.dK kvs) => newL m (kvs.map fun kv => keyPD kv.1) st Q
    | _ => False)
  | _ => False
end
end DL
end
section
set_option Elab.async false
set_option linter.all false
set_option maxRecDepth 100000
set_option maxHeartbeats 2000000
namespace DL
open PySem PySem.Spec L2 PyProof.Rows
section
variable {P : Program} {w : World} {K : PySem.W.Frag} {mg : Str → Option Value} {base : Heap} {X : Cx} {N : List Str} {sc fs : Scope} {k : Nat}
def maxOr (d : Int) : List Int → Int
  | [] => d
  | n :: r => r.foldl max n
/-- max(e, default=d) -/
def qMaxDf (te td : TD) : TD := fun ε st Q => te ε st fun x s1 => td ε s1 fun y s2 => match y, litems s2 x with
  | .d (.int d), some l => (match dints l with
    | some ns => Q (.d (.int (maxOr d ns))) s2
    | none => False)
  | _, _ => False
end
end DL
end
section
set_option linter.all false
set_option maxRecDepth 100000
namespace RD
open PySem L2 DL
/-- _law_begun(script, k) slots: 0=script 1=k 2=cells 3=great 4=seed 5=cell -/
def rd_law_begun : TDs :=
  (qSeq (qAsg (qOp (qAdd false) (qSl false (qv 0) (qPart (qv 1)) qNoPart) (qSl false (qv 0) qNoPart (qPart (qv 1)))) (qgN 2))
  (qSeq (qAsg (qLc false (qiSeq (qv 2)) (qgN 5) (qTest (qOp qGe (qv 5) (qOp qPow (qc (.d (.int 10))) (qc (.d (.int 18)))))) (qv 5) [5]) (qgN 3))
  (qSeq (qAsg (qOp (qAdd false) (qc (.d (.int 71))) (qv 1)) (qgN 4))
  (qSeq (qFor (qiSeq (qv 2)) (qgN 5) (qAsg (qOp qMod (qCB qIntC (qCons (qOp (qAdd false) (qOp (qMul false) (qv 4) (qc (.d (.int 48271)))) (qv 5)) qNil)) (qc (.d (.int 2147483647)))) (qgN 4)))
  (qRet (qDisp (("left", (qIf (qTest (qOp qNe (qv 3) (qLst false qNil))) (qOp qIx (qv 3) (qc (.d (.int 0)))) (qc (.d (.int 0))))) :: (("seed", (qv 4)) :: (("cells", (qOp (qAdd false) (qv 2) (qLst false (qCons (qOp (qAdd false) (qOp (qMul false) (qc (.d (.int 53))) (qv 1)) (qc (.d (.int 11)))) qNil)))) :: (("spot", (qc (.d (.int 0)))) :: []))))))))))
/-- _law_draw(m, below) slots: 0=m 1=below 2=found 3=spot 4=cells 5=extra 6=cell 7=blend -/
def rd_law_draw : TDs :=
  (qSeq (qIfS (qTest (qOp qGt (qOp qDGet (qv 0) (qc (.d (.str "left")))) (qc (.d (.int 0))))) (qSeq (qAsg (qOp qMod (qCB qIntC (qCons (qOp qDGet (qv 0) (qc (.d (.str "left")))) qNil)) (qv 1)) (qgN 2))
      (qSeq (qDPut (qv 0) (qc (.d (.str "left"))) (qOp qFdiv (qOp qDGet (qv 0) (qc (.d (.str "left")))) (qv 1)))
      (qRet (qv 2)))) qNext)
  (qSeq (qAsg (qOp qDGet (qv 0) (qc (.d (.str "spot")))) (qgN 3))
  (qSeq (qDPut (qv 0) (qc (.d (.str "spot"))) (qOp (qAdd false) (qv 3) (qc (.d (.int 1)))))
  (qSeq (qPar 4 5 (qCons (qOp qDGet (qv 0) (qc (.d (.str "cells")))) (qCons (qOp (qAdd false) (qOp qDGet (qv 0) (qc (.d (.str "seed")))) (qOp (qMul false) (qOp (qMul false) (qc (.d (.int 40503))) (qv 3)) (qv 3))) qNil)))
  (qSeq (qAsg (qOp qIx (qv 4) (qOp qMod (qCB qIntC (qCons (qv 3) qNil)) (qCB qLen (qCons (qv 4) qNil)))) (qgN 6))
  (qSeq (qAsg (qOp qMod (qCB qIntC (qCons (qOp (qAdd false) (qOp (qMul false) (qv 6) (qOp (qAdd false) (qOp (qMul false) (qc (.d (.int 2))) (qv 3)) (qc (.d (.int 3))))) (qv 5)) qNil)) (qc (.d (.int 2147483647)))) (qgN 7))
  (qSeq (qAsg (qOp qMod (qCB qIntC (qCons (qOp (qAdd false) (qOp (qAdd false) (qOp (qMul false) (qv 7) (qv 7)) (qOp (qMul false) (qc (.d (.int 69621))) (qv 3))) (qOp qDGet (qv 0) (qc (.d (.str "seed"))))) qNil)) (qc (.d (.int 2147483629)))) (qgN 7))
  (qRet (qOp qMod (qOp qFdiv (qOp qMod (qCB qIntC (qCons (qOp (qAdd false) (qOp (qMul false) (qv 7) (qc (.d (.int 48271)))) (qv 3)) qNil)) (qc (.d (.int 2147483647)))) (qc (.d (.int 11)))) (qv 1))))))))))
/-- _law_of(m, some) slots: 0=m 1=some -/
def rd_law_of (sp_law_draw : SpD) : TDs :=
  (qRet (qOp qIx (qv 1) (qCall sp_law_draw (qCons (qv 0) (qCons (qCB qLen (qCons (qv 1) qNil)) qNil)))))
/-- degree_of(monomial) slots: 0=monomial -/
def rd_degree_of : TDs :=
  (qRet (qCB qSum (qCons (qv 0) qNil)))
/-- divides(a, b) slots: 0=a 1=b 2=one 3=other -/
def rd_divides : TDs :=
  (qSeq (qFor (qiZip (qCons (qv 0) (qCons (qv 1) qNil))) (qgT 2 (qgCons (qgN 2) (qgCons (qgN 3) qgNil))) (qIfS (qTest (qOp qGt (qv 2) (qv 3))) (qRet (qc (.d (.bool false)))) qNext))
  (qRet (qc (.d (.bool true)))))
/-- cut(a, b) slots: 0=a 1=b 2=one 3=other -/
def rd_cut : TDs :=
  (qRet (qCB qTupleC (qCons (qLc false (qiZip (qCons (qv 0) (qCons (qv 1) qNil))) (qgT 2 (qgCons (qgN 2) (qgCons (qgN 3) qgNil))) qYes (qCB qMax2 (qCons (qOp qSub (qv 2) (qv 3)) (qCons (qc (.d (.int 0))) qNil))) [2, 3]) qNil)))
/-- _law_divides(a, b) slots: 0=a 1=b 2=k -/
def rd_law_divides : TDs :=
  (qRet (qOp qEq (qLc false (qiRng1 (qCons (qCB qLen (qCons (qv 0) qNil)) qNil)) (qgN 2) (qTest (qOp qGt (qOp qIx (qv 0) (qv 2)) (qOp qIx (qv 1) (qv 2)))) (qv 2) [2]) (qLst false qNil)))
/-- _law_least(monomials) slots: 0=monomials 1=some 2=a 3=b -/
def rd_law_least (sp_law_divides : SpD) : TDs :=
  (qSeq (qAsg (BS.qSortB false (qv 0)) (qgN 1))
  (qRet (qCB qTupleC (qCons (qLc false (qiSeq (qv 1)) (qgN 2) (qTest (qOp qEq (qLc false (qiSeq (qv 1)) (qgN 3) (qAndT (qTest (qOp qNe (qv 3) (qv 2))) (qTest (qCall sp_law_divides (qCons (qv 3) (qCons (qv 2) qNil))))) (qv 3) [3]) (qLst false qNil))) (qv 2) [2]) qNil))))
/-- _law_monomial(m, n, top) slots: 0=m 1=n 2=top 3=k -/
def rd_law_monomial (sp_law_draw : SpD) : TDs :=
  (qRet (qCB qTupleC (qCons (qLc false (qiRng1 (qCons (qv 1) qNil)) (qgN 3) qYes (qIf (qTest (qOp qGt (qCall sp_law_draw (qCons (qv 0) (qCons (qc (.d (.int 3))) qNil))) (qc (.d (.int 0))))) (qCall sp_law_draw (qCons (qv 0) (qCons (qOp (qAdd false) (qv 2) (qc (.d (.int 1)))) qNil))) (qc (.d (.int 0)))) [3]) qNil)))
/-- _law_ideal(m, n, count, top) slots: 0=m 1=n 2=count 3=top 4=some 5=k 6=a -/
def rd_law_ideal (sp_law_draw : SpD) (sp_law_monomial : SpD) (sp_law_least : SpD) : TDs :=
  (qSeq (qAsg (qLc false (qiRng1 (qCons (qCall sp_law_draw (qCons (qv 0) (qCons (qOp (qAdd false) (qv 2) (qc (.d (.int 1)))) qNil))) qNil)) (qgN 5) qYes (qCall sp_law_monomial (qCons (qv 0) (qCons (qv 1) (qCons (qv 3) qNil)))) [5]) (qgN 4))
  (qRet (qTup (qCons (qv 1) (qCons (qCall sp_law_least (qCons (qLc false (qiSeq (qv 4)) (qgN 6) (qTest (qOp qGt (qCB qSum (qCons (qv 6) qNil)) (qc (.d (.int 0))))) (qv 6) [6]) qNil)) qNil)))))
/-- least_ones(monomials) slots: 0=monomials 1=found 2=monomial 3=other -/
def rd_least_ones (sp_divides : SpD) : TDs :=
  (qSeq (qAsg (qLst true qNil) (qgN 1))
  (qSeq (qFor (qiSeq (BS.qSortB false (qv 0))) (qgN 2) (qIfS (qNotT (qTest (qCB qAny (qCons (qLc false (qiSeq (qv 1)) (qgN 3) qYes (qCall sp_divides (qCons (qv 3) (qCons (qv 2) qNil))) [3]) qNil)))) (qDrop (qAppend (qv 1) (qv 2))) qNext))
  (qRet (qv 1))))
/-- _law_cut(a, b) slots: 0=a 1=b 2=k -/
def rd_law_cut : TDs :=
  (qRet (qCB qTupleC (qCons (qLc false (qiRng1 (qCons (qCB qLen (qCons (qv 0) qNil)) qNil)) (qgN 2) qYes (qCB qMax2 (qCons (qOp qSub (qOp qIx (qv 0) (qv 2)) (qOp qIx (qv 1) (qv 2))) (qCons (qc (.d (.int 0))) qNil))) [2]) qNil)))
end RD
end
section
set_option linter.all false
set_option maxRecDepth 100000
set_option maxHeartbeats 1000000
namespace UC
open PySem L2 DL
def Sh (n : Nat) (d : PyData) : Prop := d.canLay0 = true ∧ d.depth ≤ n
theorem Sh.shaped {d : PyData} (h : Sh 64 d) : SeqAt.shaped d = true := by
  unfold SeqAt.shaped
  rw [h.1, decide_eq_true h.2]
  rfl
theorem Sh.mono {n m : Nat} {d : PyData} (h : Sh n d) (hm : n ≤ m) : Sh m d := ⟨h.1, Nat.le_trans h.2 hm⟩
theorem sh_int {n : Nat} {i : Int} : Sh n (.int i) := ⟨by simp [PyData.canLay0], by simp [PyData.depth]⟩
theorem sh_bool {n : Nat} {b : Bool} : Sh n (.bool b) := ⟨by simp [PyData.canLay0], by simp [PyData.depth]⟩
theorem canAll : ∀ {l : List PyData}, (∀ x ∈ l, x.canLay0 = true) → PyData.canLayAll0 l = true
  | [], _ => by simp [PyData.canLayAll0]
  | x :: r, h => by
    have h1 := h x List.mem_cons_self
    have h2 := canAll (l := r) fun y hy => h y (List.mem_cons_of_mem _ hy)
    simp [PyData.canLayAll0, h1, h2]
theorem depAll {n : Nat} : ∀ {l : List PyData}, (∀ x ∈ l, x.depth ≤ n) → PyData.depthAll l ≤ n
  | [], _ => by simp [PyData.depthAll]
  | x :: r, h => by
    have h1 := h x List.mem_cons_self
    have h2 := depAll (l := r) fun y hy => h y (List.mem_cons_of_mem _ hy)
    simp only [PyData.depthAll]
    omega
theorem sh_list {n : Nat} {l : List PyData} (h : ∀ x ∈ l, Sh n x) : Sh (n + 1) (.list l) := by
  have h1 := canAll fun x hx => (h x hx).1
  have h2 := depAll fun x hx => (h x hx).2
  exact ⟨by simp [PyData.canLay0, h1], by simp only [PyData.depth]; omega⟩
theorem sh_tuple {n : Nat} {l : List PyData} (h : ∀ x ∈ l, Sh n x) : Sh (n + 1) (.tuple l) := by
  have h1 := canAll fun x hx => (h x hx).1
  have h2 := depAll fun x hx => (h x hx).2
  exact ⟨by simp [PyData.canLay0, h1], by simp only [PyData.depth]; omega⟩
theorem forall_map {α : Type} {f : α → PyData} {l : List α} {p : PyData → Prop} (h : ∀ x ∈ l, p (f x)) : ∀ y ∈ l.map f, p y := fun y hy => by
  obtain ⟨x, hx, rfl⟩ := List.mem_map.mp hy
  exact h x hx
/-- a monomial, a tuple of monomials, a list of them -/
abbrev TI (a : List Int) : PyData := .tuple (a.map .int)
abbrev LI (a : List Int) : PyData := .list (a.map .int)
abbrev TT (l : List (List Int)) : PyData := .tuple (l.map TI)
abbrev LT (l : List (List Int)) : PyData := .list (l.map TI)
theorem sh_TI {n : Nat} {a : List Int} : Sh (n + 1) (TI a) := sh_tuple (forall_map fun _ _ => sh_int)
theorem sh_LI {n : Nat} {a : List Int} : Sh (n + 1) (LI a) := sh_list (forall_map fun _ _ => sh_int)
theorem sh_TT {n : Nat} {l : List (List Int)} : Sh (n + 2) (TT l) := sh_tuple (forall_map fun _ _ => sh_TI)
theorem sh_LT {n : Nat} {l : List (List Int)} : Sh (n + 2) (LT l) := sh_list (forall_map fun _ _ => sh_TI)
@[simp] theorem shaped_TI {a : List Int} : SeqAt.shaped (TI a) = true := (sh_TI (n := 63)).shaped
@[simp] theorem shaped_LI {a : List Int} : SeqAt.shaped (LI a) = true := (sh_LI (n := 63)).shaped
@[simp] theorem shaped_TT {a : List (List Int)} : SeqAt.shaped (TT a) = true := (sh_TT (n := 62)).shaped
@[simp] theorem shaped_LT {a : List (List Int)} : SeqAt.shaped (LT a) = true := (sh_LT (n := 62)).shaped
@[simp] theorem shaped_int {i : Int} : SeqAt.shaped (.int i) = true := (sh_int (n := 64)).shaped
@[simp] theorem shaped_bool {i : Bool} : SeqAt.shaped (.bool i) = true := (sh_bool (n := 64)).shaped
@[simp] theorem shaped_nilL : SeqAt.shaped (.list []) = true := by decide +kernel
@[simp] theorem shaped_nilT : SeqAt.shaped (.tuple []) = true := by decide +kernel
/-- a kind of data whose equality is that of what it tells -/
def EqK {α : Type} [DecidableEq α] (f : α → PyData) : Prop := ∀ x y, PyData.eqv (f x) (f y) = decide (x = y)
theorem eqk_int : EqK PyData.int := fun x y => by
  rw [PyData.eqv]
  by_cases h : x = y <;> simp [h]
theorem eqk_bool : EqK PyData.bool := fun x y => by
  rw [PyData.eqv]
  cases x <;> cases y <;> rfl
theorem eqvAll_map {α : Type} [DecidableEq α] {f : α → PyData} (h : EqK f) : ∀ xs ys : List α, PyData.eqvAll (xs.map f) (ys.map f) = decide (xs = ys)
  | [], [] => by simp [PyData.eqvAll]
  | [], y :: ys => by simp [PyData.eqvAll]
  | x :: xs, [] => by simp [PyData.eqvAll]
  | x :: xs, y :: ys => by
    rw [List.map_cons, List.map_cons, PyData.eqvAll, h x y, eqvAll_map h xs ys]
    by_cases h1 : x = y <;> by_cases h2 : xs = ys <;> simp [h1, h2]
theorem eqk_tuple {α : Type} [DecidableEq α] {f : α → PyData} (h : EqK f) : EqK fun l : List α => PyData.tuple (l.map f) := fun xs ys => by
  rw [PyData.eqv, eqvAll_map h]
theorem eqk_list {α : Type} [DecidableEq α] {f : α → PyData} (h : EqK f) : EqK fun l : List α => PyData.list (l.map f) := fun xs ys => by
  rw [PyData.eqv, eqvAll_map h]
@[simp] theorem eqv_int (x y : Int) : PyData.eqv (.int x) (.int y) = decide (x = y) := eqk_int x y
@[simp] theorem eqv_bool (x y : Bool) : PyData.eqv (.bool x) (.bool y) = decide (x = y) := eqk_bool x y
@[simp] theorem eqv_TI (x y : List Int) : PyData.eqv (TI x) (TI y) = decide (x = y) := eqk_tuple eqk_int x y
@[simp] theorem eqv_LI (x y : List Int) : PyData.eqv (LI x) (LI y) = decide (x = y) := eqk_list eqk_int x y
@[simp] theorem eqv_TT (x y : List (List Int)) : PyData.eqv (TT x) (TT y) = decide (x = y) := eqk_tuple (eqk_tuple eqk_int) x y
@[simp] theorem eqv_LT (x y : List (List Int)) : PyData.eqv (LT x) (LT y) = decide (x = y) := eqk_list (eqk_tuple eqk_int) x y
@[simp] theorem eqv_nilL {α : Type} (f : α → PyData) (x : List α) : PyData.eqv (.list (x.map f)) (.list []) = decide (x = []) := by
  cases x <;> simp [PyData.eqv, PyData.eqvAll]
@[simp] theorem eqv_nilT {α : Type} (f : α → PyData) (x : List α) : PyData.eqv (.tuple (x.map f)) (.tuple []) = decide (x = []) := by
  cases x <;> simp [PyData.eqv, PyData.eqvAll]
@[simp] theorem mkT_map (l : List PyData) : mkT (l.map .d) = .d (.tuple l) := by
  unfold mkT
  rw [datas_map]
@[simp] theorem mkT_2 (a b : PyData) : mkT [.d a, .d b] = .d (.tuple [a, b]) := rfl
@[simp] theorem mkT_3 (a b c : PyData) : mkT [.d a, .d b, .d c] = .d (.tuple [a, b, c]) := rfl
@[simp] theorem mkT_0 : mkT [] = .d (.tuple []) := rfl
@[simp] theorem mkT_1 (a : PyData) : mkT [.d a] = .d (.tuple [a]) := rfl
theorem sizeL : sizeLine = 16777216 := rfl
theorem fmod_range {i j : Int} (h : 0 < j) : 0 ≤ i.fmod j ∧ i.fmod j < j := by
  rw [Int.fmod_eq_emod_of_nonneg i (by omega)]
  exact ⟨Int.emod_nonneg _ (by omega), Int.emod_lt_of_pos _ h⟩
theorem cmul_l {i j : Int} (h1 : -(2 ^ 64) < i) (h2 : i < 2 ^ 64) : CMulA i j := .inl (.inl ⟨h1, h2⟩)
theorem cmul_r {i j : Int} (h1 : -(2 ^ 64) < j) (h2 : j < 2 ^ 64) : CMulA i j := .inl (.inr ⟨h1, h2⟩)
theorem cutD_len {α : Type} (xs : List α) (lo hi : Option Int) : (cutD xs lo hi).length ≤ xs.length := by
  unfold cutD
  rw [List.length_take, List.length_drop]
  omega
theorem dints_map2 (l : List Int) : dints ((l.map PyData.int).map DV.d) = some l := by
  rw [List.map_map]
  exact dints_map l
theorem dbools_map2 (l : List Bool) : dbools ((l.map PyData.bool).map DV.d) = some l := by
  rw [List.map_map]
  exact dbools_map l
theorem atI_map2 {α : Type} {f : α → PyData} {l : List α} {j : Nat} (h : j < l.length) : atI (List.map DV.d (List.map f l)) (j : Int) = some (.d (f l[j])) := atI_nat (by rw [List.getElem?_map, List.getElem?_map, List.getElem?_eq_getElem h]; rfl)
theorem comp_mapT {α : Type} (h : α → DV) (f : α → DV) {inv : Sto → Prop} {g : TDg} {te : TD} {ε : DL.Env} {Kc : List DV → Sto → Prop} {st : Sto} (hi : inv st) : ∀ (l : List α) (acc : List DV),
    (∀ p ∈ l, ∀ Q : DV → Sto → Prop, Q (f p) st → g (h p) ε st fun ε1 s1 => te ε1 s1 Q) → Kc (acc ++ l.map f) st → qComp inv g qYes te ε Kc (l.map h) acc st
  | [], acc, _, k => ⟨hi, by rw [List.map_nil, List.append_nil] at k; exact k⟩
  | x :: xs, acc, hx, k => by
    refine ⟨hi, ?_⟩
    refine hx x List.mem_cons_self (fun y s3 => qComp inv g qYes te ε Kc (xs.map h) (acc ++ [y]) s3) ?_
    exact comp_mapT h f hi xs (acc ++ [f x]) (fun y hy => hx y (List.mem_cons_of_mem _ hy)) (by rw [List.append_assoc]; exact k)
theorem comp_fmT {α : Type} (h : α → DV) (p : α → Bool) (f : α → DV) {inv : Sto → Prop} {g : TDg} {tt : TDt} {te : TD} {ε : DL.Env} {Kc : List DV → Sto → Prop} {st : Sto} (hi : inv st) : ∀ (l : List α) (acc : List DV),
    (∀ x ∈ l, ∀ (Q1 : DV → Sto → Prop) (Q2 : Sto → Prop), (if p x = true then Q1 (f x) st else Q2 st) → g (h x) ε st fun ε1 s1 => tt ε1 s1 fun b s2 => if b = true then te ε1 s2 Q1 else Q2 s2) → Kc (acc ++ (l.filter p).map f) st → qComp inv g tt te ε Kc (l.map h) acc st
  | [], acc, _, k => ⟨hi, by rw [List.filter_nil, List.map_nil, List.append_nil] at k; exact k⟩
  | x :: xs, acc, hx, k => by
    refine ⟨hi, ?_⟩
    refine hx x List.mem_cons_self (fun y s3 => qComp inv g tt te ε Kc (xs.map h) (acc ++ [y]) s3) (fun s2 => qComp inv g tt te ε Kc (xs.map h) acc s2) ?_
    cases e : p x with
    | true =>
      rw [if_pos rfl]
      refine comp_fmT h p f hi xs (acc ++ [f x]) (fun y hy => hx y (List.mem_cons_of_mem _ hy)) ?_
      rw [List.filter_cons, if_pos e, List.map_cons] at k
      rw [List.append_assoc]
      exact k
    | false =>
      rw [if_neg Bool.false_ne_true]
      refine comp_fmT h p f hi xs acc (fun y hy => hx y (List.mem_cons_of_mem _ hy)) ?_
      rw [List.filter_cons, if_neg (by rw [e]; exact Bool.false_ne_true)] at k
      exact k
/-- a for over typed items: i items gone -/
theorem for_byT {α : Type} (h : α → DV) {inv : Sto → Prop} {g : TDg} {tb : TDs} {D : EndsD} {l : List α} {ε : DL.Env} {st : Sto} (W : Nat → DL.Env → Sto → Prop) (h0 : W 0 ε st) (hi : ∀ i ε st, W i ε st → inv st)
    (hs : ∀ (i : Nat) (x : α) ε st, l[i]? = some x → W i ε st → ∀ L : DL.Env → Sto → Prop, (∀ ε' st', W (i + 1) ε' st' → L ε' st') → g (h x) ε st fun ε1 s1 => tb { D with nx := L, ct := L, bk := D.nx } ε1 s1) (hd : ∀ ε st, W l.length ε st → D.nx ε st) : qLoop inv g tb D (l.map h) ε st := by
  have : ∀ (r : List α) (i : Nat) ε st, l.drop i = r → i + r.length = l.length → W i ε st → qLoop inv g tb D (r.map h) ε st := by
    intro r
    induction r with
    | nil =>
      intro i ε st hdr hlen w
      have e : i = l.length := by simpa using hlen
      subst e
      exact ⟨hi _ _ _ w, hd _ _ w⟩
    | cons y r ih =>
      intro i ε st hdr hlen w
      have hx : l[i]? = some y := by
        have := congrArg (fun z => z[0]?) hdr
        simp only [List.getElem?_drop, List.getElem?_cons_zero, Nat.add_zero] at this
        exact this
      refine ⟨hi _ _ _ w, hs i y ε st hx w _ fun ε' st' w' => ?_⟩
      refine ih (i + 1) ε' st' ?_ (by simp only [List.length_cons] at hlen; omega) w'
      rw [← List.drop_drop, hdr]
      rfl
  exact this l 0 ε st rfl (by simp) h0
theorem fg_ret {Q : DV → Sto → Prop} {x : DV} {st : Sto} (h : Q x st) : Fg Q x st := ⟨st, Le.refl st, h⟩
theorem in_IT (neg : Bool) (i : Int) (a : List Int) (st : Sto) (Q : DV → Sto → Prop) : qIn neg (.d (.int i)) (.d (TI a)) st Q = Q (.d (.bool (if neg then !decide (i ∈ a) else decide (i ∈ a)))) st := qIn_IT neg i a st Q
theorem in_IL (neg : Bool) (i : Int) (a : List Int) (st : Sto) (Q : DV → Sto → Prop) : qIn neg (.d (.int i)) (.d (LI a)) st Q = Q (.d (.bool (if neg then !decide (i ∈ a) else decide (i ∈ a)))) st := qIn_IL neg i a st Q
theorem in_TT (neg : Bool) (a : List Int) (l : List (List Int)) (st : Sto) (Q : DV → Sto → Prop) : qIn neg (.d (TI a)) (.d (TT l)) st Q = Q (.d (.bool (if neg then !decide (a ∈ l) else decide (a ∈ l)))) st := qIn_TT neg a l st Q
theorem in_TL (neg : Bool) (a : List Int) (l : List (List Int)) (st : Sto) (Q : DV → Sto → Prop) : qIn neg (.d (TI a)) (.d (LT l)) st Q = Q (.d (.bool (if neg then !decide (a ∈ l) else decide (a ∈ l)))) st := qIn_TL neg a l st Q
theorem keyT_ints : ∀ a : List Int, keyT ((a.map PyData.int).map DV.d) = some (a.map Sum.inl)
  | [] => rfl
  | x :: a => by
    rw [List.map_cons, List.map_cons, keyT, keyT_ints a]
    rfl
theorem keyX_TI (a : List Int) : keyX (.d (TI a)) = some (a.map Sum.inl) := keyT_ints a
def tabD (l : List (List Int × DV)) : List (List Key × DV) := l.map fun p => (p.1.map Sum.inl, p.2)
theorem len_tab (l : List (List Int × DV)) : (tabD l).length = l.length := List.length_map ..
theorem inl_inj {a b : List Int} (h : (a.map Sum.inl : List Key) = b.map Sum.inl) : a = b := by
  have := congrArg (List.map BS.keyInt) h
  rw [BS.keyInts_inl, BS.keyInts_inl] at this
  exact this
theorem dec_inl (a b : List Int) : decide ((a.map Sum.inl : List Key) = b.map Sum.inl) = decide (a = b) := by
  rw [Bool.eq_iff_iff, decide_eq_true_eq, decide_eq_true_eq]
  exact ⟨inl_inj, fun h => by rw [h]⟩
def putT (l : List (List Int × DV)) (a : List Int) (v : DV) : List (List Int × DV) :=
  if (l.any fun p => decide (p.1 = a)) = true then l.map fun p => if p.1 = a then (p.1, v) else p else l ++ [(a, v)]
theorem put_tab (l : List (List Int × DV)) (a : List Int) (v : DV) : putD (tabD l) (a.map Sum.inl) v = tabD (putT l a v) := by
  unfold putD putT tabD
  rw [List.any_map]
  have e : ((fun kv : List Key × DV => decide (kv.1 = a.map Sum.inl)) ∘ fun p : List Int × DV => ((p.1.map Sum.inl : List Key), p.2)) = fun p : List Int × DV => decide (p.1 = a) := funext fun p => dec_inl p.1 a
  rw [e]
  split
  · rw [List.map_map, List.map_map]
    refine List.map_congr_left fun p _ => ?_
    show (if (p.1.map Sum.inl : List Key) = a.map Sum.inl then _ else _) = _
    by_cases h : p.1 = a
    · rw [if_pos (by rw [h])]
      show _ = ((if p.1 = a then (p.1, v) else p).1.map Sum.inl, (if p.1 = a then (p.1, v) else p).2)
      rw [if_pos h]
    · rw [if_neg fun z => h (inl_inj z)]
      show _ = ((if p.1 = a then (p.1, v) else p).1.map Sum.inl, (if p.1 = a then (p.1, v) else p).2)
      rw [if_neg h]
  · rw [List.map_append]
    rfl
theorem dput_tab (l : List (List Int × DV)) (a : List Int) (v : DV) (h : l.length < sizeLine) : dput (some (.dT (tabD l))) (.d (TI a)) v = some (.dT (tabD (putT l a v))) := by
  show (match titems (.d (TI a)) with | some ys => (match keyT ys with | some q => if (tabD l).length < sizeLine then some (MO.dT (putD (tabD l) q v)) else none | none => none) | none => none) = _
  rw [show titems (.d (TI a)) = some ((a.map PyData.int).map DV.d) from rfl]
  show (match keyT ((a.map PyData.int).map DV.d) with | some q => if (tabD l).length < sizeLine then some (MO.dT (putD (tabD l) q v)) else none | none => none) = _
  rw [keyT_ints]
  show (if (tabD l).length < sizeLine then some (MO.dT (putD (tabD l) (a.map Sum.inl) v)) else none) = _
  rw [len_tab, if_pos h, put_tab]
end UC
end
section
set_option linter.all false
set_option maxRecDepth 100000
set_option maxHeartbeats 1000000
open PySem L2 DL
local macro_rules | `(tactic| walk_at "E") => `(tactic| (try simp only [qAsg, qRet, qDrop, qIfS, qTest, qAndT, qOrT, qNotT, qAndV, qOrV, qNotV, qIf, qOp, qUn, qChain, onB, qv, qc, qgN, qgT, qgCons, qgNil, qCons, qNil, qTup, qLst, qPar, qPar3, qAug, qCB, qCall, qLen, qTupleC, qListC, qMax2, qMin2, qIntC, qSum, qAny, qAll, qIsi, tyName, qAdd, qSub, qMul, qFdiv, qMod, qPow, qI2, qCmpI, qEq, qNe, qLt, qLe, qGt, qGe, qNeg, qIx, qDGet, qDIn, qDPut, qSl, qPart, qNoPart, qNext, qFor, qiSeq, qiRng1, qiRng2, qiZip, qiEnum, qLc, seqSrc, lsrc, titems, litems, sitems, fz, newL, List.getElem?_cons_zero, List.getElem?_cons_succ, List.set_cons_zero, List.set_cons_succ, if_true, if_false, Bool.false_eq_true, ite_true, ite_false, up_same, reduceIte, decide_true, decide_false, true_and, and_true]))
namespace UC
open PySem L2 DL RD
abbrev I (i : Int) : DV := .d (.int i)
abbrev Bo (b : Bool) : DV := .d (.bool b)
def mkM (left seed : Int) (cells : List Int) (spot : Int) : MO := .dK [(.inr "left", I left), (.inr "seed", I seed), (.inr "cells", .d (.list (cells.map .int))), (.inr "spot", I spot)]
def DrawSt (st : Sto) (a : Addr) (B : Nat) : Prop := ∃ (left seed : Int) (cells : List Int) (spot : Int), st a = some (mkM left seed cells spot) ∧ cells ≠ [] ∧ 0 ≤ spot ∧ spot ≤ B
theorem DrawSt.mono {st : Sto} {a : Addr} {B B' : Nat} (h : DrawSt st a B) (hb : B ≤ B') : DrawSt st a B' := by
  obtain ⟨l, s, c, p, h1, h2, h3, h4⟩ := h
  exact ⟨l, s, c, p, h1, h2, h3, by omega⟩
theorem look_left {l s : Int} {c : List Int} {p : Int} : dlook (some (mkM l s c p)) (.d (.str "left")) = some (some (I l)) := by rfl
theorem look_seed {l s : Int} {c : List Int} {p : Int} : dlook (some (mkM l s c p)) (.d (.str "seed")) = some (some (I s)) := by rfl
theorem look_cells {l s : Int} {c : List Int} {p : Int} : dlook (some (mkM l s c p)) (.d (.str "cells")) = some (some (.d (.list (c.map .int)))) := by rfl
theorem look_spot {l s : Int} {c : List Int} {p : Int} : dlook (some (mkM l s c p)) (.d (.str "spot")) = some (some (I p)) := by rfl
theorem put_left {l s l' : Int} {c : List Int} {p : Int} : dput (some (mkM l s c p)) (.d (.str "left")) (I l') = some (mkM l' s c p) := by rfl
theorem put_spot {l s p' : Int} {c : List Int} {p : Int} : dput (some (mkM l s c p)) (.d (.str "spot")) (I p') = some (mkM l s c p') := by rfl
def sp_law_draw : SpD := fun xs st Q => ∃ (a : Addr) (below : Int) (B : Nat), xs = [.r a, I below] ∧ 1 ≤ below ∧ below < 2 ^ 30 ∧ B < 2 ^ 50 ∧ DrawSt st a B ∧
  ∀ (v : Int) st', 0 ≤ v → v < below → DrawSt st' a (B + 1) → (∀ b, b ≠ a → st' b = st b) → Q (I v) st'
theorem sem_law_draw : ∀ xs st Q, sp_law_draw xs st Q → rd_law_draw { nx := fun _ st' => Fg Q (.d .none) st', rt := Fg Q } (startD 8 xs) st := by
  rintro xs st Q ⟨a, below, B, rfl, h1, h2, hB, ⟨left, seed, cells, spot, hm, hc, hs0, hsB⟩, k⟩
  have e0 : startD 8 [.r a, I below] = [some (.r a), some (I below), none, none, none, none, none, none] := rfl
  rw [e0]
  unfold rd_law_draw
  refine seq fun N hN => ?_
  walk_at "E"
  simp only [hm, look_left]
  walk_at "E"
  by_cases hl : 0 < left
  · simp only [hl, decide_true, if_true]
    refine seq fun N1 hN1 => ?_
    walk_at "E"
    simp only [hm, look_left]
    walk_at "E"
    refine ⟨by omega, hN1 _ _ ?_⟩
    refine seq fun N2 hN2 => ?_
    walk_at "E"
    simp only [hm, look_left, put_left]
    walk_at "E"
    refine ⟨.inl ⟨by omega, by omega⟩, hN2 _ _ ?_⟩
    walk_at "E"
    obtain ⟨r1, r2⟩ := fmod_range (i := left) (j := below) (by omega)
    exact ⟨_, Le.refl _, k _ _ r1 r2 ⟨_, seed, cells, spot, up_same, hc, hs0, by omega⟩ fun b hb => up_ne hb⟩
  · simp only [hl, decide_false]
    walk_at "E"
    refine hN _ _ ?_
    clear hN N
    refine seq fun N hN => ?_
    walk_at "E"
    simp only [hm, look_spot]
    refine hN _ _ ?_
    clear hN N
    refine seq fun N hN => ?_
    walk_at "E"
    simp only [hm, put_spot]
    walk_at "E"
    refine hN _ _ ?_
    clear hN N
    refine seq fun N hN => ?_
    walk_at "E"
    simp only [up_same, look_cells, look_seed]
    walk_at "E"
    refine ⟨cmul_l (by omega) (by omega), cmul_r (by omega) (by omega), hN _ _ ?_⟩
    clear hN N
    have hlen : 0 < cells.length := List.length_pos_iff.mpr hc
    obtain ⟨j, hj, hjl⟩ : ∃ j : Nat, spot.fmod (cells.length : Int) = (j : Int) ∧ j < cells.length := by
      obtain ⟨r1, r2⟩ := fmod_range (i := spot) (j := (cells.length : Int)) (by omega)
      exact ⟨(spot.fmod (cells.length : Int)).toNat, by omega, by omega⟩
    refine seq fun N hN => ?_
    walk_at "E"
    simp only [List.length_map, hj, atI_map2 hjl]
    refine ⟨by omega, hN _ _ ?_⟩
    clear hN N
    refine seq fun N hN => ?_
    walk_at "E"
    refine ⟨cmul_l (by omega) (by omega), cmul_r (by omega) (by omega), by omega, hN _ _ ?_⟩
    clear hN N
    generalize hb1 : (cells[j] * (2 * spot + 3) + (seed + 40503 * spot * spot)).fmod 2147483647 = b1
    obtain ⟨r1, r2⟩ := fmod_range (i := cells[j] * (2 * spot + 3) + (seed + 40503 * spot * spot)) (j := 2147483647) (by omega)
    rw [hb1] at r1 r2
    refine seq fun N hN => ?_
    walk_at "E"
    simp only [up_same, look_seed]
    walk_at "E"
    refine ⟨cmul_l (by omega) (by omega), cmul_l (by omega) (by omega), by omega, hN _ _ ?_⟩
    clear hN N
    generalize hb2 : (b1 * b1 + 69621 * spot + seed).fmod 2147483629 = b2
    obtain ⟨r3, r4⟩ := fmod_range (i := b1 * b1 + 69621 * spot + seed) (j := 2147483629) (by omega)
    rw [hb2] at r3 r4
    walk_at "E"
    refine ⟨cmul_l (by omega) (by omega), by omega, .inl ⟨by omega, by omega⟩, by omega, ?_⟩
    obtain ⟨r5, r6⟩ := fmod_range (i := (((b2 * 48271 + spot).fmod 2147483647).fdiv 11)) (j := below) (by omega)
    exact ⟨_, Le.refl _, k _ _ r5 r6 ⟨left, seed, cells, spot + 1, up_same, hc, by omega, by omega⟩ fun b hb => up_ne hb⟩
theorem len_law_draw : ∀ xs st Q, sp_law_draw xs st Q → xs.length = 2 := by
  rintro xs st Q ⟨a, below, B, rfl, _⟩
  rfl
/-- the cells of a turn -/
def sp_law_begun : SpD := fun xs st Q => ∃ (ns : List Int) (k : Int), xs = [.d (.list (ns.map .int)), I k] ∧ ns.length ≤ 63 ∧ 0 ≤ k ∧ k < 2 ^ 40 ∧
  ∀ p st', st p = none → DrawSt st' p 0 → (∀ b, b ≠ p → st' b = st b) → Q (.r p) st'
theorem len_law_begun : ∀ xs st Q, sp_law_begun xs st Q → xs.length = 2 := by
  rintro xs st Q ⟨ns, k, rfl, _⟩
  rfl
theorem sem_law_begun : ∀ xs st Q, sp_law_begun xs st Q → rd_law_begun { nx := fun _ st' => Fg Q (.d .none) st', rt := Fg Q } (startD 6 xs) st := by
  rintro xs st Q ⟨ns, k, rfl, h1, h2, h3, K⟩
  have e0 : startD 6 [.d (.list (ns.map .int)), I k] = [some (.d (.list (ns.map .int))), some (I k), none, none, none, none] := rfl
  rw [e0]
  unfold rd_law_begun
  refine seq fun N hN => ?_
  walk_at "E"
  simp only [cutD_map, datas_map, ← List.map_append]
  walk_at "E"
  generalize hcs : (cutD ns (some k) none ++ cutD ns none (some k)) = cs
  have hl : cs.length ≤ 126 := by
    rw [← hcs, List.length_append]
    have a := cutD_len ns (some k) none
    have b := cutD_len ns none (some k)
    omega
  have hl2 : (List.map PyData.int (cutD ns (some k) none)).length + (List.map PyData.int (cutD ns none (some k))).length ≤ sizeLine := by
    have a := cutD_len ns (some k) none
    have b := cutD_len ns none (some k)
    rw [List.length_map, List.length_map, sizeL]
    omega
  simp only [List.length_map] at hl2 ⊢
  refine ⟨hl2, hN _ _ ?_⟩
  clear hN N
  -- great
  refine seq fun N hN => ?_
  walk_at "E"
  refine ⟨by simp only [List.length_map, sizeL]; omega, ?_⟩
  refine comp_fm (fun x => match x with | .d (.int i) => decide (10 ^ 18 ≤ i) | _ => false) id trivial _ _ ?_ ?_
  · intro x hx Q1 Q2 h
    rw [List.mem_map] at hx
    obtain ⟨y, hy, rfl⟩ := hx
    rw [List.mem_map] at hy
    obtain ⟨i, hi, rfl⟩ := hy
    simp only [wipeD]
    walk_at "E"
    simp only [id] at h
    simp only [CPow]
    exact ⟨by decide, h⟩
  · obtain ⟨gs, hgs⟩ : ∃ gs : List Int, (([] : List DV) ++ ((cs.map PyData.int).map DV.d |>.filter (fun x => match x with | .d (.int i) => decide (10 ^ 18 ≤ i) | _ => false)).map id) = (gs.map PyData.int).map DV.d := by
      refine ⟨cs.filter fun i => decide (10 ^ 18 ≤ i), ?_⟩
      rw [List.nil_append, List.map_id, List.map_map, List.map_map, List.filter_map]
      rfl
    rw [hgs]
    simp only [newL, datas_map]
    refine hN _ _ ?_
    clear hN N
    refine seq fun N hN => ?_
    walk_at "E"
    refine hN _ _ ?_
    clear hN N
    -- the seed
    refine seq fun N hN => ?_
    walk_at "E"
    refine for_by (fun _ ε s => s = st ∧ ∃ (seed : Int) (x : Option DV), 0 ≤ seed ∧ seed < 2 ^ 50 ∧ ε = [some (.d (.list (ns.map .int))), some (I k), some (.d (.list (cs.map .int))), some (.d (.list (gs.map .int))), some (I seed), x]) ⟨rfl, 71 + k, none, by omega, by omega, rfl⟩ (fun _ _ _ _ => trivial) ?_ ?_
    · rintro x ys ε s hx ⟨rfl, seed, y, s1, s2, rfl⟩ L hL
      rw [List.mem_map] at hx
      obtain ⟨z, hz, rfl⟩ := hx
      rw [List.mem_map] at hz
      obtain ⟨i, hi, rfl⟩ := hz
      walk_at "E"
      obtain ⟨r1, r2⟩ := fmod_range (i := seed * 48271 + i) (j := 2147483647) (by omega)
      exact ⟨cmul_l (by omega) (by omega), by omega, hL _ _ ⟨rfl, _, _, r1, by omega, rfl⟩⟩
    · rintro ε s ⟨rfl, seed, y, s1, s2, rfl⟩
      refine hN _ _ ?_
      clear hN N
      simp only [qRet, qDisp, qPairs]
      walk_at "E"
      have fin : ∀ l0 : Int, (∀ p, s p = none → Fg Q (.r p) (up s p (mkM l0 seed (cs ++ [53 * k + 11]) 0))) := fun l0 p hp =>
        ⟨_, Le.refl _, K p _ hp ⟨l0, seed, _, 0, up_same, by simp, by omega, by omega⟩ fun b hb => up_ne hb⟩
      have e1 : datas [DV.d (PyData.int (53 * k + 11))] = some [PyData.int (53 * k + 11)] := rfl
      have e2 : (List.map DV.d (List.map PyData.int cs) ++ List.map DV.d [PyData.int (53 * k + 11)]) = List.map DV.d (List.map PyData.int (cs ++ [53 * k + 11])) := by simp
      have e3 : datas [] = some [] := rfl
      simp only [e1, e2, e3, datas_map, eqv_nilL, shaped_nilL, shaped_LI, List.length_map, List.length_nil, List.length_singleton, true_and]
      refine ⟨by decide, ?_⟩
      by_cases hg : gs = []
      · simp only [hg, decide_true, Bool.not_true, Bool.false_eq_true, if_false]
        exact ⟨cmul_l (by omega) (by omega), by decide, by rw [sizeL]; omega, show 4 ≤ 15 by decide, fin 0⟩
      · simp only [hg, decide_false, Bool.not_false, if_true]
        cases gs with
        | nil => exact absurd rfl hg
        | cons g0 gr =>
          have e4 : atI (List.map DV.d (List.map PyData.int (g0 :: gr))) 0 = some (.d (.int g0)) := atI_map2 (j := 0) (by simp)
          simp only [e4]
          exact ⟨cmul_l (by omega) (by omega), by decide, by rw [sizeL]; omega, show 4 ≤ 15 by decide, fin g0⟩
/-- one of some things -/
def sp_law_of : SpD := fun xs st Q => ∃ (a : Addr) (x : DV) (l : List PyData) (B : Nat), xs = [.r a, x] ∧ (x = .d (.list l) ∨ x = .d (.tuple l)) ∧ l ≠ [] ∧ l.length < 2 ^ 30 ∧ B < 2 ^ 50 ∧ DrawSt st a B ∧
  ∀ (v : PyData) st', v ∈ l → DrawSt st' a (B + 1) → (∀ b, b ≠ a → st' b = st b) → Q (.d v) st'
theorem len_law_of : ∀ xs st Q, sp_law_of xs st Q → xs.length = 2 := by
  rintro xs st Q ⟨a, x, its, B, rfl, _⟩
  rfl
theorem sem_law_of : ∀ xs st Q, sp_law_of xs st Q → rd_law_of sp_law_draw { nx := fun _ st' => Fg Q (.d .none) st', rt := Fg Q } (startD 2 xs) st := by
  rintro xs st Q ⟨a, x, l, B, rfl, hx, h0, h1, hB, D, K⟩
  have e0 : startD 2 [.r a, x] = [some (.r a), some x] := rfl
  rw [e0]
  unfold rd_law_of
  have hl : 0 < l.length := List.length_pos_iff.mpr h0
  rcases hx with rfl | rfl
  all_goals
    walk_at "E"
    simp only [List.length_map]
    refine ⟨a, _, B, rfl, by omega, by omega, hB, D, fun v st' v0 v1 D' k => ?_⟩
    obtain ⟨j, rfl⟩ : ∃ j : Nat, v = (j : Int) := ⟨v.toNat, by omega⟩
    have hj : j < l.length := by omega
    have e1 : atI (List.map DV.d l) (j : Int) = some (.d l[j]) := atI_nat (by rw [List.getElem?_map, List.getElem?_eq_getElem hj]; rfl)
    simp only [e1]
    exact ⟨_, Le.refl _, K _ _ (List.getElem_mem hj) D' k⟩
end UC
end
section
set_option linter.all false
set_option maxRecDepth 100000
set_option maxHeartbeats 1000000
namespace UC
open PySem L2 DL RD
theorem draw {st : Sto} {a : Addr} {B : Nat} {below : Int} {Q : DV → Sto → Prop} (D : DrawSt st a B) (h1 : 1 ≤ below) (h2 : below < 2 ^ 30) (hB : B < 2 ^ 50)
    (k : ∀ (v : Int) st', 0 ≤ v → v < below → DrawSt st' a (B + 1) → (∀ b, b ≠ a → st' b = st b) → Q (I v) st') : sp_law_draw [.r a, I below] st Q := ⟨a, below, B, rfl, h1, h2, hB, D, k⟩
theorem drawOf {st : Sto} {a : Addr} {B : Nat} {l : List PyData} {Q : DV → Sto → Prop} (D : DrawSt st a B) (h0 : l ≠ []) (h1 : l.length < 2 ^ 30) (hB : B < 2 ^ 50)
    (k : ∀ (v : PyData) st', v ∈ l → DrawSt st' a (B + 1) → (∀ b, b ≠ a → st' b = st b) → Q (.d v) st') : sp_law_of [.r a, .d (.list l)] st Q := ⟨a, _, l, B, rfl, .inl rfl, h0, h1, hB, D, k⟩
theorem drawI {st : Sto} {a : Addr} {B : Nat} {Q : DV → Sto → Prop} (l : List Int) (D : DrawSt st a B) (h0 : l ≠ []) (h1 : l.length < 2 ^ 30) (hB : B < 2 ^ 50)
    (k : ∀ (i : Int) st', i ∈ l → DrawSt st' a (B + 1) → (∀ b, b ≠ a → st' b = st b) → Q (I i) st') : sp_law_of [.r a, .d (.list (l.map .int))] st Q := drawOf D (by simpa using h0) (by simpa using h1) hB fun v st' hv D' fr => by
  obtain ⟨i, hi, rfl⟩ := List.mem_map.mp hv
  exact k i st' hi D' fr
theorem begun {st : Sto} {ns : List Int} {k : Int} {Q : DV → Sto → Prop} (h1 : ns.length ≤ 63) (h2 : 0 ≤ k) (h3 : k < 2 ^ 40) (K : ∀ p st', DrawSt st' p 0 → (∀ b, b ≠ p → st' b = st b) → Q (.r p) st') : sp_law_begun [.d (.list (ns.map .int)), I k] st Q := ⟨ns, k, rfl, h1, h2, h3, fun p st' _ => K p st'⟩
/-- a comprehension whose elements draw, with the index -/
theorem comp_wordI {α : Type} (h : α → DV) {inv : Sto → Prop} {g : TDg} {te : TD} {ε : DL.Env} {Kc : List DV → Sto → Prop} (W : Nat → List DV → Sto → Prop) (hi : ∀ i acc st, W i acc st → inv st) (l : List α) (st : Sto) (w0 : W 0 [] st)
    (hx : ∀ i p acc st, l[i]? = some p → W i acc st → ∀ Q : DV → Sto → Prop, (∀ y s, W (i + 1) (acc ++ [y]) s → Q y s) → g (h p) ε st fun ε1 s1 => te ε1 s1 Q) (k : ∀ acc st, W l.length acc st → Kc acc st) : qComp inv g qYes te ε Kc (l.map h) [] st := by
  have : ∀ (r : List α) (i : Nat) acc st, l.drop i = r → i + r.length = l.length → W i acc st → qComp inv g qYes te ε Kc (r.map h) acc st := by
    intro r
    induction r with
    | nil =>
      intro i acc st hdr hlen w
      have e : i = l.length := by simpa using hlen
      subst e
      exact ⟨hi _ _ _ w, k _ _ w⟩
    | cons y r ih =>
      intro i acc st hdr hlen w
      have hx' : l[i]? = some y := by
        have := congrArg (fun z => z[0]?) hdr
        simp only [List.getElem?_drop, List.getElem?_cons_zero, Nat.add_zero] at this
        exact this
      refine ⟨hi _ _ _ w, ?_⟩
      refine hx i y acc st hx' w (fun z s3 => qComp inv g qYes te ε Kc (r.map h) (acc ++ [z]) s3) fun z s w' => ?_
      refine ih (i + 1) (acc ++ [z]) s ?_ (by simp only [List.length_cons] at hlen; omega) w'
      rw [← List.drop_drop, hdr]
      rfl
  exact this l 0 [] st rfl (by simp) w0
theorem range_some {n i p : Nat} (h : (List.range n)[i]? = some p) : p = i ∧ i < n := by
  by_cases hlt : i < n
  · rw [List.getElem?_range hlt] at h
    cases h
    exact ⟨rfl, hlt⟩
  · rw [List.getElem?_eq_none (by rw [List.length_range]; omega)] at h
    cases h
theorem kitB_tt : kitB "tuple" "tuple" = some true := by decide +kernel
theorem kitB_ll : kitB "list" "list" = some true := by decide +kernel
theorem kitB_dd : kitB "dict" "dict" = some true := by decide +kernel
theorem kitB_bb : kitB "bool" "bool" = some true := by decide +kernel
theorem kitB_ib : kitB "int" "bool" = some false := by decide +kernel
theorem kitB_ii : kitB "int" "int" = some true := by decide +kernel
theorem kitB_ss : kitB "str" "str" = some true := by decide +kernel
theorem kitB_tl : kitB "tuple" "list" = some false := by decide +kernel
theorem kitB_lt : kitB "list" "tuple" = some false := by decide +kernel
/-- reading of a cell -/
def gd (a : List Int) (j : Nat) : Int := a.getD j 0
theorem gd_eq {a : List Int} {j : Nat} (h : j < a.length) : a[j] = gd a j := by
  unfold gd
  rw [List.getD_eq_getElem?_getD, List.getElem?_eq_getElem h]
  rfl
theorem atI_gd {a : List Int} {j : Nat} (h : j < a.length) : atI (List.map DV.d (List.map PyData.int a)) (j : Int) = some (I (gd a j)) := by
  rw [atI_map2 (f := PyData.int) h, gd_eq h]
theorem range_gd (a : List Int) : (List.range a.length).map (gd a) = a := by
  refine List.ext_getElem (by simp) fun i h1 h2 => ?_
  rw [List.getElem_map, List.getElem_range, gd_eq h2]
theorem range_zw {f : Int → Int → Int} {a b : List Int} {n : Nat} (ha : a.length = n) (hb : b.length = n) : (List.range n).map (fun j => f (gd a j) (gd b j)) = List.zipWith f a b := by
  refine List.ext_getElem (by simp; omega) fun i h1 h2 => ?_
  rw [List.getElem_map, List.getElem_range, List.getElem_zipWith, gd_eq, gd_eq]
theorem zip_range {a b : List Int} {n : Nat} (ha : a.length = n) (hb : b.length = n) : a.zip b = (List.range n).map fun j => (gd a j, gd b j) := by
  refine List.ext_getElem (by simp; omega) fun i h1 h2 => ?_
  rw [List.getElem_map, List.getElem_range, List.getElem_zip, gd_eq, gd_eq]
theorem zipIdx_range (a : List Int) : a.zipIdx = (List.range a.length).map fun j => (gd a j, j) := by
  refine List.ext_getElem (by simp) fun i h1 h2 => ?_
  rw [List.getElem_map, List.getElem_range, List.getElem_zipIdx, Nat.zero_add, gd_eq]
theorem gd_mem {a : List Int} {j : Nat} (h : j < a.length) : gd a j ∈ a := by
  rw [← gd_eq h]
  exact List.getElem_mem h
theorem rngD0 (n : Nat) : rngD 0 n = (List.range n).map fun (j : Nat) => I (j : Int) := by
  unfold rngD
  refine List.map_congr_left fun j _ => ?_
  rw [Int.zero_add]
theorem gd_ext {a b : List Int} {n : Nat} (ha : a.length = n) (hb : b.length = n) : a = b ↔ ∀ j < n, gd a j = gd b j := by
  constructor
  · rintro rfl j hj
    rfl
  · intro h
    rw [← range_gd a, ← range_gd b, ha, hb]
    exact List.map_congr_left fun j hj => h j (List.mem_range.mp hj)
theorem gd_zw {f : Int → Int → Int} {a b : List Int} {n j : Nat} (ha : a.length = n) (hb : b.length = n) (hj : j < n) : gd (List.zipWith f a b) j = f (gd a j) (gd b j) := by
  rw [← gd_eq (by rw [List.length_zipWith]; omega), List.getElem_zipWith, gd_eq, gd_eq]
theorem gd_rep {n j : Nat} {x : Int} (hj : j < n) : gd (List.replicate n x) j = x := by
  rw [← gd_eq (by rw [List.length_replicate]; exact hj), List.getElem_replicate]
theorem len_zw {f : Int → Int → Int} {a b : List Int} {n : Nat} (ha : a.length = n) (hb : b.length = n) : (List.zipWith f a b).length = n := by
  rw [List.length_zipWith]; omega
theorem filter_nil {α : Type} {l : List α} {p : α → Bool} : l.filter p = [] ↔ ∀ x ∈ l, p x = false := by
  rw [List.filter_eq_nil_iff]
  constructor
  · intro h x hx
    exact Bool.eq_false_iff.mpr (h x hx)
  · intro h x hx e
    rw [h x hx] at e
    cases e
theorem bool_dec {b : Bool} {p : Prop} [Decidable p] (h : b = true ↔ p) : b = decide p := by
  cases b with
  | true => exact (decide_eq_true (h.mp rfl)).symm
  | false => exact (decide_eq_false fun hp => Bool.false_ne_true (h.mpr hp)).symm
theorem flat_rep {α : Type} (n : Nat) (x : α) : (List.replicate n [x]).flatten = List.replicate n x := by
  induction n with
  | zero => rfl
  | succ n ih => rw [List.replicate_succ, List.flatten_cons, ih]; rfl
theorem rep_I (n : Nat) (x : Int) : mkT (List.replicate n [I x]).flatten = .d (TI (List.replicate n x)) := by
  rw [flat_rep, ← List.map_replicate (f := I), show (List.map I (List.replicate n x)) = (List.map PyData.int (List.replicate n x)).map DV.d by rw [List.map_map]; rfl, mkT_map]
theorem turns (l : Nat) (m M : Int) (h : 0 ≤ m) (hM : m ≤ M) : ∃ t : Nat, (if (if M < (l : Int) then M else (l : Int)) > m then (if M < (l : Int) then M else (l : Int)) else m) = (t : Int) ∧ (t : Int) ≤ M := by
  refine ⟨(if (if M < (l : Int) then M else (l : Int)) > m then (if M < (l : Int) then M else (l : Int)) else m).toNat, ?_, ?_⟩ <;> split <;> split <;> omega
theorem le_size4 : (0 + 1 + 1 + 1 + 1 ≤ sizeLine) = True := by decide
theorem I_eq (i : Int) : I i = .d (.int i) := rfl
theorem Bo_eq (i : Bool) : Bo i = .d (.bool i) := rfl
theorem ints_dv {α : Type} (f : α → Int) (l : List α) : List.map (fun x => I (f x)) l = ((l.map f).map PyData.int).map DV.d := by
  rw [List.map_map, List.map_map]
  rfl
theorem ints_dv0 {α : Type} (f : α → Int) (l : List α) : [] ++ List.map (fun x => I (f x)) l = ((l.map f).map PyData.int).map DV.d := by
  rw [List.nil_append, ints_dv]
end UC
end
section
set_option linter.all false
set_option maxRecDepth 100000
set_option maxHeartbeats 1000000
namespace UC
open PySem L2 DL RD
def divB (a b : List Int) : Bool := (a.zip b).all fun p => decide (p.1 ≤ p.2)
def lcmL (a b : List Int) : List Int := List.zipWith max a b
def mulL (a b : List Int) : List Int := List.zipWith (· + ·) a b
def cutL (a b : List Int) : List Int := List.zipWith (fun x y => max (x - y) 0) a b
/-- a monomial of n variables, its exponents at most w -/
def Mon (n : Nat) (w : Int) (a : List Int) : Prop := a.length = n ∧ ∀ x ∈ a, 0 ≤ x ∧ x ≤ w
theorem Mon.mono {n : Nat} {w w' : Int} {a : List Int} (h : Mon n w a) (hw : w ≤ w') : Mon n w' a := ⟨h.1, fun x hx => ⟨(h.2 x hx).1, Int.le_trans (h.2 x hx).2 hw⟩⟩
theorem Mon.bd {n : Nat} {w : Int} {a : List Int} (h : Mon n w a) : TS.Bd (w + 1) a := fun x hx => ⟨(h.2 x hx).1, by have := (h.2 x hx).2; omega⟩
theorem divB_iff {a b : List Int} {n : Nat} (ha : a.length = n) (hb : b.length = n) : divB a b = true ↔ ∀ j < n, gd a j ≤ gd b j := by
  unfold divB
  rw [zip_range ha hb, List.all_eq_true]
  constructor
  · intro h j hj
    exact of_decide_eq_true (h _ (List.mem_map.mpr ⟨j, List.mem_range.mpr hj, rfl⟩))
  · intro h x hx
    obtain ⟨j, hj, rfl⟩ := List.mem_map.mp hx
    exact decide_eq_true (h j (List.mem_range.mp hj))
theorem divB_refl (a : List Int) : divB a a = true := (divB_iff rfl rfl).mpr fun j _ => Int.le_refl _
theorem divB_trans {a b c : List Int} {n : Nat} (ha : a.length = n) (hb : b.length = n) (hc : c.length = n) (h1 : divB a b = true) (h2 : divB b c = true) : divB a c = true :=
  (divB_iff ha hc).mpr fun j hj => Int.le_trans ((divB_iff ha hb).mp h1 j hj) ((divB_iff hb hc).mp h2 j hj)
theorem divB_anti {a b : List Int} {n : Nat} (ha : a.length = n) (hb : b.length = n) (h1 : divB a b = true) (h2 : divB b a = true) : a = b :=
  (gd_ext ha hb).mpr fun j hj => Int.le_antisymm ((divB_iff ha hb).mp h1 j hj) ((divB_iff hb ha).mp h2 j hj)
theorem divB_lex : ∀ {a b : List Int}, a.length = b.length → divB a b = true → a = b ∨ lexL a b = true
  | [], [], _, _ => .inl rfl
  | x :: a, y :: b, hl, h => by
    simp only [divB, List.zip_cons_cons, List.all_cons, Bool.and_eq_true, decide_eq_true_eq] at h
    have hl' : a.length = b.length := by simpa using hl
    simp only [lexL, Bool.or_eq_true, Bool.and_eq_true, decide_eq_true_eq, List.cons.injEq]
    by_cases e : x = y
    · rcases divB_lex hl' h.2 with k | k
      · exact .inl ⟨e, k⟩
      · exact .inr (.inr ⟨e, k⟩)
    · exact .inr (.inl (by omega))
/-- those that no other one divides, sorted -/
def minL (S : List (List Int)) : List (List Int) := (sortU S).filter fun a => decide ((sortU S).filter (fun b => decide (b ≠ a) && divB b a) = [])
def stepL (acc : List (List Int)) (m : List Int) : List (List Int) := if (acc.map fun o => divB o m).any id = true then acc else acc ++ [m]
structure Mins (S R : List (List Int)) : Prop where
  ris : RisL R
  sub : ∀ r ∈ R, r ∈ S
  cov : ∀ s ∈ S, ∃ r ∈ R, divB r s = true
  anti : ∀ r ∈ R, ∀ r' ∈ R, divB r r' = true → r = r'
theorem mins_minL {S : List (List Int)} {n : Nat} (hS : ∀ s ∈ S, s.length = n) : Mins S (minL S) := by
  have hq : ∀ s ∈ sortU S, s.length = n := fun s hs => hS s (mem_sortU.mp hs)
  refine ⟨(ris_sortU S).sublist List.filter_sublist, fun r hr => mem_sortU.mp (List.mem_filter.mp hr).1, fun s hs => ?_, fun r hr r' hr' h => ?_⟩
  · have hT : RisL ((sortU S).filter fun b => divB b s) := (ris_sortU S).sublist List.filter_sublist
    have hs' : s ∈ (sortU S).filter fun b => divB b s := List.mem_filter.mpr ⟨mem_sortU.mpr hs, divB_refl s⟩
    cases e : (sortU S).filter (fun b => divB b s) with
    | nil => rw [e] at hs'; cases hs'
    | cons r T =>
      have hr : r ∈ (sortU S).filter fun b => divB b s := by rw [e]; exact List.mem_cons_self
      obtain ⟨r1, r2⟩ := List.mem_filter.mp hr
      refine ⟨r, List.mem_filter.mpr ⟨r1, decide_eq_true ?_⟩, r2⟩
      rw [List.filter_eq_nil_iff]
      intro b hb hh
      simp only [Bool.and_eq_true, decide_eq_true_eq] at hh
      have hb2 : b ∈ (sortU S).filter fun b => divB b s := List.mem_filter.mpr ⟨hb, divB_trans (hq b hb) (hq r r1) (hS s hs) hh.2 r2⟩
      rw [e] at hb2 hT
      rcases List.mem_cons.mp hb2 with z | z
      · exact hh.1 z
      · have k1 := (List.pairwise_cons.mp hT).1 b z
        rcases divB_lex ((hq b hb).trans (hq r r1).symm) hh.2 with k | k
        · exact hh.1 k
        · have := lexL_tr k1 k
          rw [lexL_irr] at this
          cases this
  · obtain ⟨a1, a2⟩ := List.mem_filter.mp hr
    obtain ⟨b1, b2⟩ := List.mem_filter.mp hr'
    have := List.filter_eq_nil_iff.mp (of_decide_eq_true b2) r a1
    simp only [Bool.and_eq_true, decide_eq_true_eq, not_and] at this
    exact Classical.byContradiction fun hne => this hne h
theorem mins_fold {n : Nat} : ∀ (post acc pre : List (List Int)), RisL (pre ++ post) → (∀ s ∈ pre ++ post, s.length = n) → Mins pre acc → Mins (pre ++ post) (post.foldl stepL acc)
  | [], acc, pre, _, _, h => by rw [List.append_nil]; exact h
  | m :: post, acc, pre, hr, hl, h => by
    have e : pre ++ m :: post = (pre ++ [m]) ++ post := by simp
    have hm : m.length = n := hl m (by simp)
    rw [e] at hr hl ⊢
    refine mins_fold post (stepL acc m) (pre ++ [m]) hr hl ?_
    have hlex : ∀ r ∈ acc, lexL r m = true := fun r hr' => by
      have := (List.pairwise_append.mp hr).1
      exact (List.pairwise_append.mp this).2.2 r (h.sub r hr') m (List.mem_singleton.mpr rfl)
    have hla : ∀ r ∈ acc, r.length = n := fun r hr' => hl r (List.mem_append_left _ (List.mem_append_left _ (h.sub r hr')))
    unfold stepL
    by_cases ha : (acc.map fun o => divB o m).any id = true
    · rw [if_pos ha]
      refine ⟨h.ris, fun r hr' => List.mem_append_left _ (h.sub r hr'), fun s hs => ?_, h.anti⟩
      rcases List.mem_append.mp hs with hs | hs
      · exact h.cov s hs
      · rw [List.mem_singleton.mp hs]
        obtain ⟨b, hb, hb2⟩ := List.any_eq_true.mp ha
        obtain ⟨r, hr', rfl⟩ := List.mem_map.mp hb
        exact ⟨r, hr', hb2⟩
    · rw [if_neg ha]
      have hno : ∀ r ∈ acc, divB r m = false := fun r hr' => Bool.eq_false_iff.mpr fun z => ha (List.any_eq_true.mpr ⟨true, List.mem_map.mpr ⟨r, hr', z⟩, rfl⟩)
      refine ⟨List.pairwise_append.mpr ⟨h.ris, List.pairwise_singleton _ _, fun a ha b hb => by rw [List.mem_singleton.mp hb]; exact hlex a ha⟩, fun r hr' => ?_, fun s hs => ?_, fun r hr' r' hr'' hd => ?_⟩
      · rcases List.mem_append.mp hr' with z | z
        · exact List.mem_append_left _ (h.sub r z)
        · exact List.mem_append_right _ z
      · rcases List.mem_append.mp hs with hs | hs
        · obtain ⟨r, h1, h2⟩ := h.cov s hs
          exact ⟨r, List.mem_append_left _ h1, h2⟩
        · exact ⟨s, List.mem_append_right _ hs, divB_refl s⟩
      · rcases List.mem_append.mp hr' with z | z <;> rcases List.mem_append.mp hr'' with z' | z'
        · exact h.anti r z r' z' hd
        · rw [List.mem_singleton.mp z', hno r z] at hd
          cases hd
        · have zz := List.mem_singleton.mp z
          subst zz
          rcases divB_lex (hm.trans (hla r' z').symm) hd with k | k
          · exact k
          · have := lexL_tr k (hlex r' z')
            rw [lexL_irr] at this
            cases this
        · rw [List.mem_singleton.mp z, List.mem_singleton.mp z']
theorem mins_uniq {S R S' R' : List (List Int)} {n : Nat} (hS : ∀ s ∈ S, s.length = n) (hS' : ∀ s ∈ S', s.length = n) (h : Mins S R) (h' : Mins S' R') (c : ∀ s ∈ S, ∃ s' ∈ S', divB s' s = true) (c' : ∀ s ∈ S', ∃ s' ∈ S, divB s' s = true) : R = R' := by
  have key : ∀ {S R S' R' : List (List Int)}, (∀ s ∈ S, s.length = n) → (∀ s ∈ S', s.length = n) → Mins S R → Mins S' R' → (∀ s ∈ S, ∃ s' ∈ S', divB s' s = true) → (∀ s ∈ S', ∃ s' ∈ S, divB s' s = true) → ∀ r ∈ R, r ∈ R' := by
    intro S R S' R' hS hS' h h' c c' r hr
    obtain ⟨s', hs', d1⟩ := c r (h.sub r hr)
    obtain ⟨r', hr', d2⟩ := h'.cov s' hs'
    obtain ⟨s, hs, d3⟩ := c' r' (h'.sub r' hr')
    obtain ⟨q, hq, d4⟩ := h.cov s hs
    have lr := hS r (h.sub r hr)
    have ls' := hS' s' hs'
    have lr' := hS' r' (h'.sub r' hr')
    have ls := hS s hs
    have lq := hS q (h.sub q hq)
    have d5 : divB q r' = true := divB_trans lq ls lr' d4 d3
    have d6 : divB r' r = true := divB_trans lr' ls' lr d2 d1
    have e : q = r := h.anti q hq r hr (divB_trans lq lr' lr d5 d6)
    subst e
    rw [divB_anti lr lr' d5 d6]
    exact hr'
  exact ris_eq h.ris h'.ris fun x => ⟨key hS hS' h h' c c' x, key hS' hS h' h c' c x⟩
theorem fold_min {S : List (List Int)} {n : Nat} (hS : ∀ s ∈ S, s.length = n) : (sortU S).foldl stepL [] = minL S := by
  have hq : ∀ s ∈ sortU S, s.length = n := fun s hs => hS s (mem_sortU.mp hs)
  have h := mins_fold (n := n) (sortU S) [] [] (ris_sortU S) hq ⟨List.Pairwise.nil, (fun r hr => nomatch hr), (fun s hs => nomatch hs), (fun r hr => nomatch hr)⟩
  exact mins_uniq hq hS h (mins_minL hS) (fun s hs => ⟨s, mem_sortU.mp hs, divB_refl s⟩) fun s hs => ⟨s, mem_sortU.mpr hs, divB_refl s⟩
theorem min_cong {S S' : List (List Int)} {n : Nat} (hS : ∀ s ∈ S, s.length = n) (hS' : ∀ s ∈ S', s.length = n) (c : ∀ s ∈ S, ∃ s' ∈ S', divB s' s = true) (c' : ∀ s ∈ S', ∃ s' ∈ S, divB s' s = true) : minL S = minL S' := mins_uniq hS hS' (mins_minL hS) (mins_minL hS') c c'
theorem min_sub {S : List (List Int)} : ∀ r ∈ minL S, r ∈ S := fun r hr => mem_sortU.mp (List.mem_filter.mp hr).1
theorem min_idem {S : List (List Int)} {n : Nat} (hS : ∀ s ∈ S, s.length = n) : minL (minL S) = minL S :=
  min_cong (fun s hs => hS s (min_sub s hs)) hS (fun s hs => ⟨s, min_sub s hs, divB_refl s⟩) (mins_minL hS).cov
theorem min_len (S : List (List Int)) : (minL S).length ≤ S.length := Nat.le_trans (List.length_filter_le _ _) (sortU_len S)
theorem tints_TI (ts : List (List Int)) : tints ((ts.map TI).map DV.d) = some ts := tints_map ts
theorem dv_TI (l : List (List Int)) : (l.map fun a => DV.d (.tuple (a.map .int))) = (l.map TI).map DV.d := by
  rw [List.map_map]
  rfl
theorem tis_dv0 (l : List (List Int)) : [] ++ (l.map fun a => DV.d (TI a)) = (l.map TI).map DV.d := dv_TI l
theorem atI_0 {α : Type} (x : α) (l : List α) : atI (x :: l) 0 = some x := atI_nat (j := 0) rfl
theorem atI_1 {α : Type} (x y : α) (l : List α) : atI (x :: y :: l) 1 = some y := atI_nat (j := 1) rfl
theorem atI_2 {α : Type} (x y z : α) (l : List α) : atI (x :: y :: z :: l) 2 = some z := atI_nat (j := 2) rfl
theorem mk_app (a b : List PyData) : mkT (a.map .d ++ b.map .d) = .d (.tuple (a ++ b)) := by
  rw [← List.map_append, mkT_map]
theorem mk_appT (a b : List (List Int)) : mkT ((a.map TI).map .d ++ (b.map TI).map .d) = .d (TT (a ++ b)) := by
  rw [mk_app, ← List.map_append]
theorem mk_snocI (a : List Int) (k : Int) : mkT ((a.map PyData.int).map .d ++ [.d (.int k)]) = .d (TI (a ++ [k])) := by
  have := mk_app (a.map .int) [.int k]
  rw [show TI (a ++ [k]) = .tuple (a.map .int ++ [.int k]) by simp [TI], ← this]
  rfl
@[reducible] def idl (n : Nat) (l : List (List Int)) : PyData := .tuple [.int n, TT l]
theorem size_of {n m : Nat} (h : n ≤ m) (hm : m ≤ 100000) : n ≤ sizeLine := by rw [sizeL]; omega
theorem sitems_le {st st' : Sto} {x : DV} {l : List DV} (h : sitems st x = some l) (hl : Le st st') : sitems st' x = some l := by
  cases x with
  | d z => cases z <;> exact h
  | t ys => exact h
  | r a =>
    simp only [sitems, titems, litems] at h ⊢
    cases e : st a with
    | none => rw [e] at h; cases h
    | some m => rw [hl a m e]; rw [e] at h; exact h
theorem le_up {st st' : Sto} {p : Addr} (h0 : st p = none) (h : ∀ b, b ≠ p → st' b = st b) : Le st st' := fun a m e => by
  rw [h a (fun z => by rw [z, h0] at e; cases e)]
  exact e
theorem le_up1 {st : Sto} {p : Addr} {m : MO} (h0 : st p = none) : Le st (up st p m) := le_up h0 fun b hb => up_ne hb
theorem src_of2 {st : Sto} {x : DV} {l : List DV} (h : sitems st x = some l) : ∃ inv : Sto → Prop, seqSrc st x = some (l, inv) ∧ ∀ s', sitems s' x = some l → inv s' := by
  cases x with
  | d z =>
    cases z with
    | tuple ds => cases h; exact ⟨_, rfl, fun _ _ => trivial⟩
    | list ds => cases h; exact ⟨_, rfl, fun _ _ => trivial⟩
    | _ => cases h
  | t ys => cases h; exact ⟨_, rfl, fun _ _ => trivial⟩
  | r a =>
    have key : ∀ s', sitems s' (.r a) = some l → s' a = some (.lst l) := fun s' h => by
      simp only [sitems, titems, litems] at h
      cases e : s' a with
      | none => rw [e] at h; cases h
      | some m =>
        rw [e] at h
        cases m with
        | lst xs => cases h; rfl
        | _ => cases h
    exact ⟨fun s' => s' a = some (.lst l), by simp only [seqSrc, titems, lsrc, key st h], key⟩
theorem fg_le {Q : DV → Sto → Prop} {x : DV} {st st' : Sto} (hl : Le st st') (h : Q x st) : Fg Q x st' := ⟨st, hl, h⟩
end UC
end
section
set_option linter.all false
set_option maxRecDepth 100000
set_option maxHeartbeats 1000000
open PySem L2 DL
local macro_rules | `(tactic| walk_at "E") => `(tactic| (try simp only [qAsg, qRet, qDrop, qIfS, qTest, qAndT, qOrT, qNotT, qAndV, qOrV, qNotV, qIf, qOp, qUn, qChain, onB, qv, qc, qgN, qgT, qgCons, qgNil, qCons, qNil, qTup, qLst, qPar, qPar3, qAug, qCB, qCall, qLen, qTupleC, qListC, qMax2, qMin2, qIntC, qSum, qAny, qAll, qIsi, tyName, qAdd, qSub, qMul, qFdiv, qMod, qPow, qI2, qCmpI, qEq, qNe, qLt, qLe, qGt, qGe, qNeg, qIx, qDGet, qDIn, qDPut, qSl, qPart, qNoPart, qNext, qFor, qiSeq, qiRng1, qiRng2, qiZip, qiEnum, qLc, seqSrc, lsrc, titems, litems, sitems, fz, newL, List.getElem?_cons_zero, List.getElem?_cons_succ, List.set_cons_zero, List.set_cons_succ, if_true, if_false, Bool.false_eq_true, ite_true, ite_false, up_same, reduceIte, decide_true, decide_false, true_and, and_true]))
namespace UC
open PySem L2 DL RD
def sp_degree_of : SpD := fun xs st Q => ∃ a : List Int, xs = [.d (TI a)] ∧ Q (I a.sum) st
def sp_divides : SpD := fun xs st Q => ∃ a b : List Int, xs = [.d (TI a), .d (TI b)] ∧ Q (Bo (divB a b)) st
def spZ (f : List Int → List Int → List Int) : SpD := fun xs st Q => ∃ a b : List Int, xs = [.d (TI a), .d (TI b)] ∧ a.length ≤ 1000 ∧ Q (.d (TI (f a b))) st
abbrev sp_cut : SpD := spZ cutL
theorem len_degree_of : ∀ xs st Q, sp_degree_of xs st Q → xs.length = 1 := by rintro xs st Q ⟨a, rfl, _⟩; rfl
theorem len_divides : ∀ xs st Q, sp_divides xs st Q → xs.length = 2 := by rintro xs st Q ⟨a, b, rfl, _⟩; rfl
theorem lenZ {f : List Int → List Int → List Int} : ∀ xs st Q, spZ f xs st Q → xs.length = 2 := by rintro xs st Q ⟨a, b, rfl, _⟩; rfl
theorem len_cut : ∀ xs st Q, sp_cut xs st Q → xs.length = 2 := lenZ
theorem sem_degree_of : ∀ xs st Q, sp_degree_of xs st Q → rd_degree_of { nx := fun _ st' => Fg Q (.d .none) st', rt := Fg Q } (startD 1 xs) st := by
  rintro xs st Q ⟨a, rfl, K⟩
  have e0 : startD 1 [.d (TI a)] = [some (.d (TI a))] := rfl
  rw [e0]
  unfold rd_degree_of
  walk_at "E"
  simp only [dints_map2]
  exact fg_ret K
/-- the items of a zip of two monomials -/
theorem zipD_ints : ∀ a b : List Int, zipD ((a.map PyData.int).map DV.d) ((b.map PyData.int).map DV.d) = (a.zip b).map fun p => DV.d (.tuple [.int p.1, .int p.2])
  | [], _ => rfl
  | _ :: _, [] => rfl
  | x :: a, y :: b => by
    have ih := zipD_ints a b
    unfold zipD at ih ⊢
    rw [List.map_cons, List.map_cons, List.map_cons, List.map_cons, List.zipWith_cons_cons, ih, List.zip_cons_cons, List.map_cons]
    rfl
theorem semZ_of {f : List Int → List Int → List Int} {fe : Int → Int → Int} {te : TD} (hf : f = List.zipWith fe)
    (he : ∀ (a b : DV) (x y : Int) (st : Sto) (Q : DV → Sto → Prop), Q (I (fe x y)) st → te [some a, some b, some (I x), some (I y)] st Q) :
    ∀ xs st Q, spZ f xs st Q → (qRet (qCB qTupleC (qCons (qLc false (qiZip (qCons (qv 0) (qCons (qv 1) qNil))) (qgT 2 (qgCons (qgN 2) (qgCons (qgN 3) qgNil))) qYes te [2, 3]) qNil))) { nx := fun _ st' => Fg Q (.d .none) st', rt := Fg Q } (startD 4 xs) st := by
  rintro xs st Q ⟨a, b, rfl, hl, K⟩
  have e0 : startD 4 [.d (TI a), .d (TI b)] = [some (.d (TI a)), some (.d (TI b)), none, none] := rfl
  rw [e0]
  walk_at "E"
  rw [zipD_ints]
  refine ⟨by rw [List.length_map, List.length_zip, sizeL]; omega, ?_⟩
  refine comp_mapT _ (fun p => I (fe p.1 p.2)) trivial _ _ ?_ ?_
  · intro p hp Q1 h
    simp only [wipeD]
    walk_at "E"
    simp only [List.map_cons, List.map_nil, List.length_cons, List.length_nil]
    walk_at "E"
    exact he _ _ _ _ _ _ h
  · have e1 : [] ++ ((a.zip b).map fun p => I (fe p.1 p.2)) = ((f a b).map PyData.int).map DV.d := by
      rw [hf, List.nil_append, ← List.map_uncurry_zip_eq_zipWith, List.map_map, List.map_map]
      rfl
    rw [e1]
    simp only [datas_map]
    walk_at "E"
    rw [mkT_map]
    exact fg_ret K
theorem sem_cut : ∀ xs st Q, sp_cut xs st Q → rd_cut { nx := fun _ st' => Fg Q (.d .none) st', rt := Fg Q } (startD 4 xs) st :=
  semZ_of (fe := fun x y => max (x - y) 0) rfl fun a b x y st Q h => by
    walk_at "E"
    rw [show (if 0 > x - y then 0 else x - y) = max (x - y) 0 by rw [Int.max_def]; split <;> split <;> omega]
    exact h
theorem sem_divides : ∀ xs st Q, sp_divides xs st Q → rd_divides { nx := fun _ st' => Fg Q (.d .none) st', rt := Fg Q } (startD 4 xs) st := by
  rintro xs st Q ⟨a, b, rfl, K⟩
  have e0 : startD 4 [.d (TI a), .d (TI b)] = [some (.d (TI a)), some (.d (TI b)), none, none] := rfl
  rw [e0]
  unfold rd_divides
  refine seq fun N hN => ?_
  walk_at "E"
  rw [zipD_ints]
  refine for_byT _ (fun i ε s => s = st ∧ (((a.zip b).take i).all fun p => decide (p.1 ≤ p.2)) = true ∧ ∃ x y, ε = [some (.d (TI a)), some (.d (TI b)), x, y]) ⟨rfl, rfl, _, _, rfl⟩ (fun _ _ _ _ => trivial) ?_ ?_
  · rintro i p ε s hp ⟨rfl, ha, x, y, rfl⟩ L hL
    walk_at "E"
    simp only [List.map_cons, List.map_nil, List.length_cons, List.length_nil]
    walk_at "E"
    by_cases h : p.2 < p.1
    · simp only [h, decide_true, if_true]
      refine fg_ret ?_
      have e : divB a b = false := by
        unfold divB
        rw [List.all_eq_false]
        exact ⟨p, List.mem_of_getElem? hp, by simp; omega⟩
      rw [e] at K
      exact K
    · simp only [h, decide_false]
      walk_at "E"
      refine hL _ _ ⟨rfl, ?_, _, _, rfl⟩
      rw [List.take_succ, hp, List.all_append, ha]
      simp
      omega
  · rintro ε s ⟨rfl, ha, x, y, rfl⟩
    refine hN _ _ ?_
    walk_at "E"
    refine fg_ret ?_
    rw [List.take_length] at ha
    have e : divB a b = true := ha
    rw [e] at K
    exact K
theorem div_none {a b : List Int} {n : Nat} (ha : a.length = n) (hb : b.length = n) : divB a b = decide ((List.range n).filter (fun j => decide (gd b j < gd a j)) = []) := bool_dec <| by
  rw [divB_iff ha hb, filter_nil]
  constructor
  · intro h j hj
    exact decide_eq_false (by have := h j (List.mem_range.mp hj); omega)
  · intro h j hj
    have := of_decide_eq_false (h j (List.mem_range.mpr hj))
    omega
end UC
end
section
set_option linter.all false
set_option maxRecDepth 100000
set_option maxHeartbeats 1000000
open PySem L2 DL RD UC
local macro_rules | `(tactic| walk_at "E") => `(tactic| (try simp only [qAsg, qRet, qDrop, qIfS, qTest, qAndT, qOrT, qNotT, qAndV, qOrV, qNotV, qIf, qOp, qUn, qChain, onB, qv, qc, qgN, qgT, qgCons, qgNil, qCons, qNil, qTup, qLst, qPar, qPar3, qAug, qCB, qCall, qLen, qTupleC, qListC, qMax2, qMin2, qIntC, qSum, qAny, qAll, qIsi, tyName, qAdd, qSub, qMul, qFdiv, qMod, qPow, qI2, qCmpI, qEq, qNe, qLt, qLe, qGt, qGe, qNeg, qIx, qDGet, qDIn, qDPut, qSl, qPart, qNoPart, qNext, qFor, qiSeq, qiRng1, qiRng2, qiZip, qiEnum, qLc, seqSrc, lsrc, titems, litems, sitems, fz, newL, List.getElem?_cons_zero, List.getElem?_cons_succ, List.set_cons_zero, List.set_cons_succ, if_true, if_false, Bool.false_eq_true, ite_true, ite_false, up_same, reduceIte, decide_true, decide_false, true_and, and_true]))
local macro_rules | `(tactic| walk_at "D") => `(tactic| (try simp only [qAsg, qRet, qDrop, qIfS, qTest, qAndT, qOrT, qNotT, qAndV, qOrV, qNotV, qIf, qOp, qUn, qChain, onB, qv, qc, qgN, qgT, qgCons, qgNil, qCons, qNil, qTup, qLst, qPar, qPar3, qAug, qCB, qCall, qLen, qTupleC, qListC, qMax2, qMin2, qIntC, qSum, qAny, qAll, qIsi, tyName, qAdd, qSub, qMul, qFdiv, qMod, qPow, qI2, qCmpI, qEq, qNe, qLt, qLe, qGt, qGe, qNeg, qIx, qDGet, qDIn, qDPut, qSl, qPart, qNoPart, qNext, qFor, qiSeq, qiRng1, qiRng2, qiZip, qiEnum, qLc, seqSrc, lsrc, titems, litems, sitems, fz, newL, List.getElem?_cons_zero, List.getElem?_cons_succ, List.set_cons_zero, List.set_cons_succ, if_true, if_false, Bool.false_eq_true, ite_true, ite_false, up_same, reduceIte, decide_true, decide_false, true_and, and_true, eqv_int, eqv_bool, eqv_TI, eqv_LI, eqv_TT, eqv_LT, eqv_nilL, eqv_nilT, shaped_TI, shaped_LI, shaped_TT, shaped_LT, shaped_int, shaped_bool, shaped_nilL, shaped_nilT, dints_map2, dbools_map2, datas_map, mkT_map, mkT_0, mkT_1, mkT_2, mkT_3, List.length_map, List.length_cons, List.length_nil, List.length_append, List.map_cons, List.map_nil, wipeD, Bool.not_true, Bool.not_false, eq_self, not_true_eq_false, not_false_eq_true, kitB_tt, kitB_ll, kitB_dd, kitB_bb, kitB_ib, kitB_ii, kitB_ss, kitB_tl, kitB_lt, Function.comp, datas, Option.map_some, List.cons_append, List.nil_append, CPow, le_size4, Int.toNat_natCast, rngD0, I_eq, Bo_eq, BS.qSortB, in_IT, in_IL, in_TT, in_TL, qNotN, qIsN, qSortD, qListRg, qDispT, keyX_TI, qGet, qiItems, qLockE, qLockS, qPop, qMaxDf, qLc2, qMax1, qMin1, qAppend, qExtend, tints_TI, dv_TI, Option.bind_some, qRetN, atI_0, atI_1, atI_2, mk_appT, mk_snocI, idl, rep_I, Option.map_none, qComb, qGcd]))
local macro_rules | `(tactic| walk_at "F") => `(tactic| (try simp only [qAsg, qRet, qDrop, qIfS, qTest, qAndT, qOrT, qNotT, qAndV, qOrV, qNotV, qIf, qOp, qUn, qChain, onB, qv, qc, qgN, qgT, qgCons, qgNil, qCons, qNil, qTup, qLst, qPar, qPar3, qAug, qCB, qCall, qLen, qTupleC, qListC, qMax2, qMin2, qIntC, qSum, qAny, qAll, qIsi, tyName, qAdd, qSub, qMul, qFdiv, qMod, qPow, qI2, qCmpI, qEq, qNe, qLt, qLe, qGt, qGe, qNeg, qIx, qDGet, qDIn, qDPut, qSl, qPart, qNoPart, qNext, qFor, qiRng1, qiRng2, qiZip, qiEnum, qLc, fz, newL, List.getElem?_cons_zero, List.getElem?_cons_succ, List.set_cons_zero, List.set_cons_succ, if_true, if_false, Bool.false_eq_true, ite_true, ite_false, up_same, reduceIte, decide_true, decide_false, true_and, and_true, eqv_int, eqv_bool, eqv_TI, eqv_LI, eqv_TT, eqv_LT, eqv_nilL, eqv_nilT, shaped_TI, shaped_LI, shaped_TT, shaped_LT, shaped_int, shaped_bool, shaped_nilL, shaped_nilT, dints_map2, dbools_map2, datas_map, mkT_map, mkT_0, mkT_1, mkT_2, mkT_3, List.length_map, List.length_cons, List.length_nil, List.length_append, List.map_cons, List.map_nil, wipeD, Bool.not_true, Bool.not_false, eq_self, not_true_eq_false, not_false_eq_true, kitB_tt, kitB_ll, kitB_dd, kitB_bb, kitB_ib, kitB_ii, kitB_ss, kitB_tl, kitB_lt, Function.comp, datas, Option.map_some, List.cons_append, List.nil_append, CPow, le_size4, Int.toNat_natCast, rngD0, I_eq, Bo_eq, BS.qSortB, in_IT, in_IL, in_TT, in_TL, qNotN, qIsN, qSortD, qListRg, qDispT, keyX_TI, qGet, qiItems, qLockE, qLockS, qPop, qMaxDf, qLc2, qMax1, qMin1, qAppend, qExtend, tints_TI, dv_TI, Option.bind_some, qRetN, atI_0, atI_1, atI_2, mk_appT, mk_snocI, idl, rep_I, Option.map_none, qComb, qGcd]))
namespace UC
open PySem L2 DL RD
/-- what may be sorted as a set -/
def OkS (n : Nat) (w : Int) (ts : List (List Int)) : Prop := 1 ≤ n ∧ n ≤ 1000 ∧ ts.length < 4000 ∧ ∀ t ∈ ts, Mon n w t
theorem OkS.q {n : Nat} {w : Int} {ts : List (List Int)} (h : OkS n w ts) : ts.length < 4000 ∧ ∀ t ∈ ts, t ≠ [] := ⟨h.2.2.1, fun t ht e => by
  have h1 := (h.2.2.2 t ht).1
  have h2 := h.1
  rw [e] at h1
  simp at h1
  omega⟩
theorem OkS.len {n : Nat} {w : Int} {ts : List (List Int)} (h : OkS n w ts) : ∀ t ∈ ts, t.length = n := fun t ht => (h.2.2.2 t ht).1
def sp_law_divides : SpD := fun xs st Q => ∃ (a b : List Int) (n : Nat), xs = [.d (TI a), .d (TI b)] ∧ a.length = n ∧ b.length = n ∧ n ≤ 1000 ∧ Q (Bo (divB a b)) st
theorem len_law_divides : ∀ xs st Q, sp_law_divides xs st Q → xs.length = 2 := by rintro xs st Q ⟨a, b, n, rfl, _⟩; rfl
theorem sem_law_divides : ∀ xs st Q, sp_law_divides xs st Q → rd_law_divides { nx := fun _ st' => Fg Q (.d .none) st', rt := Fg Q } (startD 3 xs) st := by
  rintro xs st Q ⟨a, b, n, rfl, ha, hb, hn, K⟩
  have e0 : startD 3 [.d (TI a), .d (TI b)] = [some (.d (TI a)), some (.d (TI b)), none] := rfl
  rw [e0]
  unfold rd_law_divides
  walk_at "D"
  rw [ha]
  refine ⟨by omega, by omega, by rw [List.length_range, sizeL]; omega, ?_⟩
  refine comp_fmT _ (fun j => decide (gd b j < gd a j)) (fun (j : Nat) => I (j : Int)) trivial _ _ ?_ ?_
  · intro j hj Q1 Q2 h
    rw [List.mem_range] at hj
    walk_at "D"
    simp only [atI_gd (show j < a.length by omega), atI_gd (show j < b.length by omega)]
    walk_at "D"
    exact h
  · rw [ints_dv0]
    walk_at "D"
    simp only [List.map_eq_nil_iff]
    rw [← div_none ha hb]
    refine ⟨by decide, fg_ret K⟩
def sp_law_least : SpD := fun xs st Q => ∃ (x : DV) (ts : List (List Int)) (n : Nat) (w : Int), xs = [x] ∧ sitems st x = some ((ts.map TI).map .d) ∧ OkS n w ts ∧ Q (.d (TT (minL ts))) st
theorem len_law_least : ∀ xs st Q, sp_law_least xs st Q → xs.length = 1 := by rintro xs st Q ⟨a, ts, n, w, rfl, _⟩; rfl
theorem sem_law_least : ∀ xs st Q, sp_law_least xs st Q → rd_law_least sp_law_divides { nx := fun _ st' => Fg Q (.d .none) st', rt := Fg Q } (startD 4 xs) st := by
  rintro xs st Q ⟨x, ts, n, w, rfl, hx, ok, K⟩
  have e0 : startD 4 [x] = [some x, none, none, none] := rfl
  rw [e0]
  unfold rd_law_least
  refine seq fun N hN => ?_
  walk_at "F"
  simp only [hx]
  walk_at "D"
  refine ⟨ok.q.1, hN _ _ ?_⟩; clear hN N
  have hl : (sortU ts).length < 4000 := Nat.lt_of_le_of_lt (sortU_len ts) ok.q.1
  have hq : ∀ s ∈ sortU ts, s.length = n := fun s hs => ok.len s (mem_sortU.mp hs)
  walk_at "D"
  refine ⟨size_of (Nat.le_of_lt hl) (by omega), ?_⟩
  rw [List.map_map]
  refine comp_fmT _ (fun a => decide ((sortU ts).filter (fun b => decide (b ≠ a) && divB b a) = [])) (fun a => .d (TI a)) trivial _ _ ?_ ?_
  · intro a ha Q1 Q2 h
    walk_at "D"
    refine ⟨size_of (Nat.le_of_lt hl) (by omega), ?_⟩
    rw [List.map_map]
    refine comp_fmT _ (fun b => decide (b ≠ a) && divB b a) (fun b => .d (TI b)) trivial _ _ ?_ ?_
    · intro b hb Q3 Q4 h2
      walk_at "D"
      by_cases e : b = a
      · simp only [e, decide_true, Bool.not_true]
        simp only [e, ne_eq, not_true_eq_false, decide_false, Bool.false_and] at h2
        exact h2
      · simp only [e, decide_false, Bool.not_false, if_true]
        simp only [ne_eq, e, not_false_eq_true, decide_true, Bool.true_and] at h2
        refine ⟨b, a, n, rfl, hq b hb, hq a ha, ok.2.1, ?_⟩
        walk_at "D"
        exact h2
    · rw [tis_dv0]
      walk_at "D"
      exact ⟨by decide, h⟩
  · rw [tis_dv0]
    walk_at "D"
    exact fg_ret K
def sp_law_monomial : SpD := fun xs st Q => ∃ (a : Addr) (n : Nat) (top : Int) (B : Nat), xs = [.r a, I n, I top] ∧ n ≤ 100 ∧ 0 ≤ top ∧ top < 2 ^ 29 ∧ B + 200 < 2 ^ 50 ∧ DrawSt st a B ∧
  ∀ (v : List Int) st', Mon n top v → DrawSt st' a (B + 200) → (∀ b, b ≠ a → st' b = st b) → Q (.d (TI v)) st'
theorem len_law_monomial : ∀ xs st Q, sp_law_monomial xs st Q → xs.length = 3 := by rintro xs st Q ⟨a, n, w, B, rfl, _⟩; rfl
theorem sem_law_monomial : ∀ xs st Q, sp_law_monomial xs st Q → rd_law_monomial sp_law_draw { nx := fun _ st' => Fg Q (.d .none) st', rt := Fg Q } (startD 4 xs) st := by
  rintro xs st Q ⟨a, n, w, B, rfl, hn, w1, w2, hB, D, K⟩
  have e0 : startD 4 [.r a, I n, I w] = [some (.r a), some (I n), some (I w), none] := rfl
  rw [e0]
  unfold rd_law_monomial
  walk_at "D"
  refine ⟨by omega, by omega, by rw [List.length_range, sizeL]; omega, ?_⟩
  refine comp_wordI _ (fun i acc s => ∃ v : List Int, acc = (v.map .int).map .d ∧ v.length = i ∧ (∀ x ∈ v, 0 ≤ x ∧ x ≤ w) ∧ DrawSt s a (B + 2 * i) ∧ ∀ b, b ≠ a → s b = st b) (fun _ _ _ _ => trivial) _ st ⟨[], rfl, rfl, (by intro x hx; cases hx), D, fun _ _ => rfl⟩ ?_ ?_
  · rintro i p acc s hp ⟨v, rfl, h1, h2, D, fr⟩ Q1 h
    obtain ⟨rfl, hi⟩ := range_some hp
    walk_at "D"
    refine draw D (by omega) (by omega) (by omega) fun d1 s1 l1 u1 D1 fr1 => ?_
    walk_at "D"
    by_cases hd : 0 < d1
    · simp only [hd, decide_true, if_true]
      refine draw D1 (by omega) (by omega) (by omega) fun d2 s2 l2 u2 D2 fr2 => ?_
      refine h _ _ ⟨v ++ [d2], by simp, by simp; omega, ?_, D2.mono (by omega), fun b hb => by rw [fr2 b hb, fr1 b hb, fr b hb]⟩
      intro x hx
      rcases List.mem_append.mp hx with hx | hx
      · exact h2 x hx
      · rw [List.mem_singleton.mp hx]; omega
    · simp only [hd, decide_false]
      walk_at "D"
      refine h _ _ ⟨v ++ [0], by simp, by simp; omega, ?_, D1.mono (by omega), fun b hb => by rw [fr1 b hb, fr b hb]⟩
      intro x hx
      rcases List.mem_append.mp hx with hx | hx
      · exact h2 x hx
      · rw [List.mem_singleton.mp hx]; omega
  · rintro acc s ⟨v, rfl, h1, h2, D, fr⟩
    rw [List.length_range] at h1 D
    walk_at "D"
    exact fg_ret (K v s ⟨h1, h2⟩ (D.mono (by omega)) fr)
/-- the least generators of an ideal -/
def Idl (n : Nat) (w : Int) (cnt : Nat) (L : List (List Int)) : Prop := minL L = L ∧ L.length ≤ cnt ∧ ∀ t ∈ L, Mon n w t
def sp_law_ideal : SpD := fun xs st Q => ∃ (a : Addr) (n cnt : Nat) (top : Int) (B : Nat), xs = [.r a, I n, I cnt, I top] ∧ 1 ≤ n ∧ n ≤ 100 ∧ cnt ≤ 60 ∧ 0 ≤ top ∧ top < 2 ^ 29 ∧ B + 20000 < 2 ^ 50 ∧ DrawSt st a B ∧
  ∀ (L : List (List Int)) st', Idl n top cnt L → (∀ t ∈ L, 0 < t.sum) → DrawSt st' a (B + 20000) → (∀ b, b ≠ a → st' b = st b) → Q (.d (idl n L)) st'
theorem len_law_ideal : ∀ xs st Q, sp_law_ideal xs st Q → xs.length = 4 := by rintro xs st Q ⟨a, n, c, w, B, rfl, _⟩; rfl
theorem sem_law_ideal : ∀ xs st Q, sp_law_ideal xs st Q → rd_law_ideal sp_law_draw sp_law_monomial sp_law_least { nx := fun _ st' => Fg Q (.d .none) st', rt := Fg Q } (startD 7 xs) st := by
  rintro xs st Q ⟨a, n, cnt, top, B, rfl, hn0, hn, hcnt, w1, w2, hB, D, K⟩
  have e0 : startD 7 [.r a, I n, I cnt, I top] = [some (.r a), some (I n), some (I cnt), some (I top), none, none, none] := rfl
  rw [e0]
  unfold rd_law_ideal
  refine seq fun N hN => ?_
  walk_at "D"
  refine draw D (by omega) (by omega) (by omega) fun v s1 l1 u1 D1 fr1 => ?_
  obtain ⟨c, rfl⟩ : ∃ c : Nat, v = (c : Int) := ⟨v.toNat, by omega⟩
  walk_at "D"
  refine ⟨by omega, by omega, by rw [List.length_range, sizeL]; omega, ?_⟩
  refine comp_wordI _ (fun i acc s => ∃ ts : List (List Int), acc = (ts.map TI).map .d ∧ ts.length = i ∧ (∀ t ∈ ts, Mon n top t) ∧ DrawSt s a (B + 1 + 200 * i) ∧ ∀ b, b ≠ a → s b = st b) (fun _ _ _ _ => trivial) _ s1 ⟨[], rfl, rfl, (by intro x hx; cases hx), D1, fr1⟩ ?_ ?_
  · rintro i p acc s hp ⟨ts, rfl, h1, h2, D, fr⟩ Q1 h
    obtain ⟨rfl, hi⟩ := range_some hp
    walk_at "D"
    refine ⟨a, n, top, _, rfl, hn, w1, w2, by omega, D, fun t s2 ht D2 fr2 => ?_⟩
    refine h _ _ ⟨ts ++ [t], by simp, by simp; omega, ?_, D2.mono (by omega), fun b hb => by rw [fr2 b hb, fr b hb]⟩
    intro x hx
    rcases List.mem_append.mp hx with hx | hx
    · exact h2 x hx
    · rw [List.mem_singleton.mp hx]; exact ht
  · rintro acc s ⟨ts, rfl, h1, h2, D, fr⟩
    rw [List.length_range] at h1 D
    walk_at "D"
    refine hN _ _ ?_; clear hN N
    walk_at "D"
    refine ⟨size_of (m := 60) (by omega) (by omega), ?_⟩
    rw [List.map_map]
    refine comp_fmT _ (fun t => decide (0 < t.sum)) (fun t => .d (TI t)) trivial _ _ ?_ ?_
    · intro t ht Q1 Q2 h
      walk_at "D"
      by_cases e : 0 < t.sum
      · simp only [e, decide_true, if_true] at h ⊢
        walk_at "D"
        exact h
      · simp only [e, decide_false] at h ⊢
        walk_at "D"
        exact h
    · rw [tis_dv0]
      walk_at "D"
      have hf : (ts.filter fun t => decide (0 < t.sum)).length ≤ c := Nat.le_trans (List.length_filter_le _ _) (by omega)
      have hm : ∀ t ∈ ts.filter (fun t => decide (0 < t.sum)), Mon n top t := fun t ht => h2 t (List.mem_filter.mp ht).1
      have hle : ∀ t ∈ ts.filter (fun t => decide (0 < t.sum)), t.length = n := fun t ht => (hm t ht).1
      refine ⟨_, ts.filter fun t => decide (0 < t.sum), n, top, rfl, rfl, ⟨hn0, by omega, by omega, hm⟩, ?_⟩
      walk_at "D"
      refine ⟨by decide, fg_ret (K _ s ⟨min_idem hle, Nat.le_trans (min_len _) (by omega), fun t ht => hm t (min_sub t ht)⟩ (fun t ht => of_decide_eq_true (List.mem_filter.mp (min_sub t ht)).2) (D.mono (by omega)) fr)⟩
/-- the program's own -/
def sp_least_ones : SpD := fun xs st Q => ∃ (x : DV) (ts : List (List Int)) (n : Nat) (w : Int), xs = [x] ∧ sitems st x = some ((ts.map TI).map .d) ∧ OkS n w ts ∧
  ∀ p st', st p = none → st' p = some (.lst (((minL ts).map TI).map .d)) → (∀ b, b ≠ p → st' b = st b) → Q (.r p) st'
theorem len_least_ones : ∀ xs st Q, sp_least_ones xs st Q → xs.length = 1 := by rintro xs st Q ⟨a, ts, n, w, rfl, _⟩; rfl
theorem sem_least_ones : ∀ xs st Q, sp_least_ones xs st Q → rd_least_ones sp_divides { nx := fun _ st' => Fg Q (.d .none) st', rt := Fg Q } (startD 4 xs) st := by
  rintro xs st Q ⟨x, ts, n, w, rfl, hx, ok, K⟩
  have e0 : startD 4 [x] = [some x, none, none, none] := rfl
  rw [e0]
  unfold rd_least_ones
  have hl : (sortU ts).length < 4000 := Nat.lt_of_le_of_lt (sortU_len ts) ok.q.1
  have hacc : ∀ i, (((sortU ts).take i).foldl stepL []).length ≤ i := by
    have : ∀ (l acc : List (List Int)), (l.foldl stepL acc).length ≤ acc.length + l.length := by
      intro l
      induction l with
      | nil => exact fun acc => Nat.le_refl _
      | cons m l ih =>
        intro acc
        refine Nat.le_trans (ih (stepL acc m)) ?_
        unfold stepL
        split
        · simp <;> omega
        · simp <;> omega
    intro i
    refine Nat.le_trans (this _ []) ?_
    simp only [List.length_nil, List.length_take]
    omega
  refine seq fun N hN => ?_
  walk_at "D"
  refine ⟨by decide, fun p hp => hN _ _ ?_⟩; clear hN N
  refine seq fun N hN => ?_
  walk_at "F"
  simp only [qiSeq, BS.qSortB, qv, List.getElem?_cons_zero, sitems_le hx (le_up1 hp)]
  walk_at "D"
  refine ⟨ok.q.1, ?_⟩
  rw [List.map_map]
  refine for_byT _ (fun i ε s => ∃ y, ε = [some x, some (.r p), y, none] ∧ s p = some (.lst (((((sortU ts).take i).foldl stepL []).map TI).map .d)) ∧ ∀ b, b ≠ p → s b = st b) ⟨none, rfl, up_same, fun b hb => up_ne hb⟩ (fun _ _ _ _ => trivial) ?_ ?_
  · rintro i m ε s hm ⟨y, rfl, hs, fr⟩ L hL
    walk_at "D"
    simp only [hs]
    walk_at "D"
    have hlen := hacc i
    have hi : i < (sortU ts).length := (List.getElem?_eq_some_iff.mp hm).1
    refine ⟨size_of (m := 4000) (by omega) (by omega), ?_⟩
    rw [List.map_map]
    have hn : (sortU ts).take (i + 1) = (sortU ts).take i ++ [m] := by rw [List.take_succ, hm]; rfl
    generalize hA : ((sortU ts).take i).foldl stepL [] = A at hs hlen ⊢
    refine comp_mapT _ (fun o => Bo (divB o m)) (by rw [← List.map_map]; exact hs) _ _ ?_ ?_
    · intro o ho Q1 h
      walk_at "D"
      exact ⟨o, m, rfl, h⟩
    · have e1 : [] ++ A.map (fun o => Bo (divB o m)) = ((A.map fun o => divB o m).map PyData.bool).map DV.d := by
        rw [List.nil_append, List.map_map, List.map_map]
        rfl
      rw [e1]
      walk_at "D"
      have hstep : ((sortU ts).take (i + 1)).foldl stepL [] = if (A.map fun o => divB o m).any id = true then A else A ++ [m] := by rw [hn, List.foldl_append, hA]; rfl
      cases e : (A.map fun o => divB o m).any id with
      | true =>
        rw [e, if_pos rfl] at hstep
        walk_at "D"
        exact hL _ _ ⟨_, rfl, by rw [hstep]; exact hs, fr⟩
      | false =>
        rw [e, if_neg Bool.false_ne_true] at hstep
        walk_at "D"
        refine ⟨⟨_, hs⟩, _, hs, by simp only [List.length_map, sizeL]; omega, hL _ _ ⟨_, rfl, ?_, fun b hb => by rw [up_ne hb]; exact fr b hb⟩⟩
        rw [up_same, hstep]
        simp
  · rintro ε s ⟨y, rfl, hs, fr⟩
    refine hN _ _ ?_
    walk_at "D"
    rw [List.take_length, fold_min ok.len] at hs
    exact fg_ret (K p s hp hs fr)
def sp2 (f : List Int → List Int → List Int) : SpD := fun xs st Q => ∃ (a b : List Int) (n : Nat), xs = [.d (TI a), .d (TI b)] ∧ a.length = n ∧ b.length = n ∧ n ≤ 1000 ∧ Q (.d (TI (f a b))) st
theorem len_sp2 {f : List Int → List Int → List Int} : ∀ xs st Q, sp2 f xs st Q → xs.length = 2 := by rintro xs st Q ⟨a, b, n, rfl, _⟩; rfl
theorem sem2_of {f : List Int → List Int → List Int} {fe : Int → Int → Int} {te : TD} (hf : f = List.zipWith fe)
    (he : ∀ (a b : List Int) (j : Nat) (st : Sto) (Q : DV → Sto → Prop), j < a.length → j < b.length → Q (I (fe (gd a j) (gd b j))) st → te [some (.d (TI a)), some (.d (TI b)), some (I j)] st Q) :
    ∀ xs st Q, sp2 f xs st Q → (qRet (qCB qTupleC (qCons (qLc false (qiRng1 (qCons (qCB qLen (qCons (qv 0) qNil)) qNil)) (qgN 2) qYes te [2]) qNil))) { nx := fun _ st' => Fg Q (.d .none) st', rt := Fg Q } (startD 3 xs) st := by
  rintro xs st Q ⟨a, b, n, rfl, ha, hb, hn, K⟩
  have e0 : startD 3 [.d (TI a), .d (TI b)] = [some (.d (TI a)), some (.d (TI b)), none] := rfl
  rw [e0]
  walk_at "D"
  refine ⟨by omega, by omega, ?_⟩
  rw [ha]
  refine ⟨by rw [List.length_range, sizeL]; omega, ?_⟩
  refine comp_mapT _ (fun (j : Nat) => I (fe (gd a j) (gd b j))) trivial _ _ ?_ ?_
  · intro j hj Q1 h
    rw [List.mem_range] at hj
    walk_at "D"
    exact he a b j _ _ (by omega) (by omega) h
  · rw [ints_dv0, range_zw ha hb, ← hf]
    walk_at "D"
    exact fg_ret K
end UC
end
section
set_option linter.all false
set_option maxRecDepth 100000
set_option maxHeartbeats 1000000
namespace UC
open PySem L2 DL RD
theorem mul_comm {a b : List Int} {n : Nat} (ha : a.length = n) (hb : b.length = n) : mulL a b = mulL b a := by
  unfold mulL
  rw [gd_ext (len_zw ha hb) (len_zw hb ha)]
  intro j hj
  rw [gd_zw ha hb hj, gd_zw hb ha hj]
  omega
theorem mul_zero {n : Nat} {a : List Int} (ha : a.length = n) : mulL a (List.replicate n 0) = a := by
  unfold mulL
  rw [gd_ext (len_zw ha (List.length_replicate ..)) ha]
  intro j hj
  rw [gd_zw ha (List.length_replicate ..) hj, gd_rep hj]
  omega
section
variable {n : Nat} {w : Int} {A B : List (List Int)}
theorem Idl.len {cnt : Nat} (h : Idl n w cnt A) : ∀ a ∈ A, a.length = n := fun a ha => (h.2.2 a ha).1
end
theorem eqv_idl (n m : Int) (X Y : List (List Int)) : PyData.eqv (.tuple [.int n, TT X]) (.tuple [.int m, TT Y]) = (decide (n = m) && decide (X = Y)) := by
  rw [PyData.eqv, PyData.eqvAll, PyData.eqvAll, PyData.eqvAll, eqv_int, eqv_TT, Bool.and_true]
theorem shaped_idl (n : Int) (X : List (List Int)) : SeqAt.shaped (.tuple [.int n, TT X]) = true := (sh_tuple (n := 3) (l := [.int n, TT X]) fun x hx => by
  simp only [List.mem_cons, List.not_mem_nil, or_false] at hx
  rcases hx with rfl | rfl
  · exact sh_int
  · exact sh_TT).mono (by omega) |>.shaped
end UC
end
section
set_option linter.all false
set_option maxRecDepth 100000
set_option maxHeartbeats 1000000
namespace UC
open PySem L2 DL RD
section
variable {n : Nat} {w : Int} {A B : List (List Int)}
theorem Idl.mono {c : Nat} {v : Int} {d : Nat} (h : Idl n w c A) (hw : w ≤ v) (hc : c ≤ d) : Idl n v d A := ⟨h.1, Nat.le_trans h.2.1 hc, fun t ht => (h.2.2 t ht).mono hw⟩
end
end UC
end
section
set_option linter.all false
set_option maxRecDepth 100000
set_option maxHeartbeats 1000000
namespace UC
open PySem L2 DL RD
def NN (n : Nat) (c : List Int) : Prop := c.length = n ∧ ∀ x ∈ c, 0 ≤ x
theorem Mon.nn {n : Nat} {w : Int} {a : List Int} (h : Mon n w a) : NN n a := ⟨h.1, fun x hx => (h.2 x hx).1⟩
theorem NN.at {n : Nat} {c : List Int} (h : NN n c) {j : Nat} (hj : j < n) : 0 ≤ gd c j := h.2 _ (gd_mem (by rw [h.1]; exact hj))
end UC
end
section
set_option linter.all false
set_option maxRecDepth 100000
set_option maxHeartbeats 1000000
namespace UC
open PySem L2 DL RD
structure Keeps (n : Nat) (h : List Int → List Int) : Prop where
  nn : ∀ a, NN n a → NN n (h a)
  mono : ∀ a b, NN n a → NN n b → divB a b = true → divB (h a) (h b) = true
abbrev NNs (n : Nat) (A : List (List Int)) : Prop := ∀ a ∈ A, NN n a
theorem NNs.len {n : Nat} {A : List (List Int)} (h : NNs n A) : ∀ a ∈ A, a.length = n := fun a ha => (h a ha).1
theorem NNs.map {n : Nat} {A : List (List Int)} {f : List Int → List Int} (kf : Keeps n f) (h : NNs n A) : NNs n (A.map f) := fun a ha => by
  obtain ⟨b, hb, rfl⟩ := List.mem_map.mp ha
  exact kf.nn b (h b hb)
end UC
end
section
set_option linter.all false
set_option maxRecDepth 100000
set_option maxHeartbeats 1000000
namespace UC
open PySem L2 DL RD
def holdsB (p m : List Int) : Bool := (p.zip m).any fun z => decide (0 < z.1) && decide (z.1 ≤ z.2)
theorem holds_iff {p m : List Int} {n : Nat} (hp : p.length = n) (hm : m.length = n) : holdsB p m = true ↔ ∃ j < n, 0 < gd p j ∧ gd p j ≤ gd m j := by
  unfold holdsB
  rw [zip_range hp hm, List.any_eq_true]
  constructor
  · rintro ⟨x, hx, h⟩
    obtain ⟨j, hj, rfl⟩ := List.mem_map.mp hx
    simp only [Bool.and_eq_true, decide_eq_true_eq] at h
    exact ⟨j, List.mem_range.mp hj, h⟩
  · rintro ⟨j, hj, h1, h2⟩
    exact ⟨_, List.mem_map.mpr ⟨j, List.mem_range.mpr hj, rfl⟩, by simp only [Bool.and_eq_true, decide_eq_true_eq]; exact ⟨h1, h2⟩⟩
/-- the power of one variable -/
def powL (n : Nat) (i : Nat) (e : Int) : List Int := (List.range n).map fun k => if k = i then e else 0
theorem len_powL {n i : Nat} {e : Int} : (powL n i e).length = n := by unfold powL; rw [List.length_map, List.length_range]
theorem gd_powL {n i k : Nat} {e : Int} (hk : k < n) : gd (powL n i e) k = if k = i then e else 0 := by
  rw [← gd_eq (by rw [len_powL]; exact hk)]
  unfold powL
  rw [List.getElem_map, List.getElem_range]
def powersL (p : List Int) : List (List Int) := (p.zipIdx.filter fun z => decide (0 < z.1)).map fun z => powL p.length z.2 z.1
theorem mem_powersL {p x : List Int} {n : Nat} (hp : p.length = n) : x ∈ powersL p ↔ ∃ j < n, 0 < gd p j ∧ x = powL n j (gd p j) := by
  unfold powersL
  rw [zipIdx_range, hp]
  simp only [List.mem_map, List.mem_filter, List.mem_range, decide_eq_true_eq]
  constructor
  · rintro ⟨z, ⟨⟨j, hj, rfl⟩, h⟩, rfl⟩
    exact ⟨j, hj, h, rfl⟩
  · rintro ⟨j, hj, h, rfl⟩
    exact ⟨_, ⟨⟨j, hj, rfl⟩, h⟩, rfl⟩
/-- the first one's ideal contains the other's -/
def aroundB (p q : List Int) : Bool := (powersL q).all fun x => holdsB p x
theorem around_iff {p q : List Int} {n : Nat} (hp : p.length = n) (hq : q.length = n) : aroundB p q = true ↔ ∀ j < n, 0 < gd q j → 0 < gd p j ∧ gd p j ≤ gd q j := by
  unfold aroundB
  rw [List.all_eq_true]
  constructor
  · intro h j hj h0
    obtain ⟨i, hi, h1, h2⟩ := (holds_iff hp len_powL).mp (h _ ((mem_powersL hq).mpr ⟨j, hj, h0, rfl⟩))
    rw [gd_powL hi] at h2
    by_cases e : i = j
    · subst e
      rw [if_pos rfl] at h2
      exact ⟨h1, h2⟩
    · rw [if_neg e] at h2
      omega
  · intro h x hx
    obtain ⟨j, hj, h0, rfl⟩ := (mem_powersL hq).mp hx
    obtain ⟨h1, h2⟩ := h j hj h0
    exact (holds_iff hp len_powL).mpr ⟨j, hj, h1, by rw [gd_powL hj, if_pos rfl]; exact h2⟩
theorem around_trans {p q r : List Int} {n : Nat} (hp : p.length = n) (hq : q.length = n) (hr : r.length = n) (h1 : aroundB p q = true) (h2 : aroundB q r = true) : aroundB p r = true :=
  (around_iff hp hr).mpr fun j hj h => by
    obtain ⟨a, b⟩ := (around_iff hq hr).mp h2 j hj h
    obtain ⟨c, d⟩ := (around_iff hp hq).mp h1 j hj a
    exact ⟨c, by omega⟩
theorem around_anti {p q : List Int} {n : Nat} (hp : NN n p) (hq : NN n q) (h1 : aroundB p q = true) (h2 : aroundB q p = true) : p = q :=
  (gd_ext hp.1 hq.1).mpr fun j hj => by
    have a := (around_iff hp.1 hq.1).mp h1 j hj
    have b := (around_iff hq.1 hp.1).mp h2 j hj
    have := hp.at hj
    have := hq.at hj
    by_cases c : 0 < gd q j
    · have := (a c)
      have := b this.1
      omega
    · by_cases d : 0 < gd p j
      · have := b d
        omega
      · omega
/-- what the components of the ideal of some generators are -/
structure Comp (n : Nat) (G L : List (List Int)) : Prop where
  nn : NNs n L
  up : ∀ p ∈ L, ∀ g ∈ G, holdsB p g = true
  all : ∀ q, NN n q → (∀ g ∈ G, holdsB q g = true) → ∃ p ∈ L, aroundB q p = true
  anti : ∀ p ∈ L, ∀ q ∈ L, aroundB p q = true → p = q
theorem Comp.same {n : Nat} {G L M : List (List Int)} (a : Comp n G L) (b : Comp n G M) : ∀ x, x ∈ L ↔ x ∈ M := by
  have key : ∀ {L M : List (List Int)}, Comp n G L → Comp n G M → ∀ x ∈ L, x ∈ M := fun {L M} a b x hx => by
    obtain ⟨p, hp, h1⟩ := b.all x (a.nn x hx) (a.up x hx)
    obtain ⟨q, hq, h2⟩ := a.all p (b.nn p hp) (b.up p hp)
    have nx := a.nn x hx
    have np := b.nn p hp
    have e := a.anti x hx q hq (around_trans nx.1 np.1 (a.nn q hq).1 h1 h2)
    subst e
    rw [around_anti nx np h1 h2]
    exact hp
  exact fun x => ⟨key a b x, key b a x⟩
end UC
end
section
set_option linter.all false
set_option maxRecDepth 100000
set_option maxHeartbeats 1000000
namespace UC
open PySem L2 DL RD
theorem nn_of_gd {n : Nat} {a : List Int} (h : a.length = n) (k : ∀ j < n, 0 ≤ gd a j) : NN n a := ⟨h, fun x hx => by
  obtain ⟨j, hj, rfl⟩ := List.mem_iff_getElem.mp hx
  rw [gd_eq hj]
  exact k j (by omega)⟩
def addA (K : List (List Int)) (a : List Int) : List (List Int) := if a ∈ K then K else K ++ [a]
def stepF (K : List (List Int)) (g : List Int) : List (List Int) := (K.map fun m => lcmL m g).foldl addA K
end UC
end
section
set_option linter.all false
set_option maxRecDepth 100000
set_option maxHeartbeats 1000000
open PySem L2 DL RD UC
local macro_rules | `(tactic| walk_at "E") => `(tactic| (try simp only [qAsg, qRet, qDrop, qIfS, qTest, qAndT, qOrT, qNotT, qAndV, qOrV, qNotV, qIf, qOp, qUn, qChain, onB, qv, qc, qgN, qgT, qgCons, qgNil, qCons, qNil, qTup, qLst, qPar, qPar3, qAug, qCB, qCall, qLen, qTupleC, qListC, qMax2, qMin2, qIntC, qSum, qAny, qAll, qIsi, tyName, qAdd, qSub, qMul, qFdiv, qMod, qPow, qI2, qCmpI, qEq, qNe, qLt, qLe, qGt, qGe, qNeg, qIx, qDGet, qDIn, qDPut, qSl, qPart, qNoPart, qNext, qFor, qiSeq, qiRng1, qiRng2, qiZip, qiEnum, qLc, seqSrc, lsrc, titems, litems, sitems, fz, newL, List.getElem?_cons_zero, List.getElem?_cons_succ, List.set_cons_zero, List.set_cons_succ, if_true, if_false, Bool.false_eq_true, ite_true, ite_false, up_same, reduceIte, decide_true, decide_false, true_and, and_true]))
local macro_rules | `(tactic| walk_at "D") => `(tactic| (try simp only [qAsg, qRet, qDrop, qIfS, qTest, qAndT, qOrT, qNotT, qAndV, qOrV, qNotV, qIf, qOp, qUn, qChain, onB, qv, qc, qgN, qgT, qgCons, qgNil, qCons, qNil, qTup, qLst, qPar, qPar3, qAug, qCB, qCall, qLen, qTupleC, qListC, qMax2, qMin2, qIntC, qSum, qAny, qAll, qIsi, tyName, qAdd, qSub, qMul, qFdiv, qMod, qPow, qI2, qCmpI, qEq, qNe, qLt, qLe, qGt, qGe, qNeg, qIx, qDGet, qDIn, qDPut, qSl, qPart, qNoPart, qNext, qFor, qiSeq, qiRng1, qiRng2, qiZip, qiEnum, qLc, seqSrc, lsrc, titems, litems, sitems, fz, newL, List.getElem?_cons_zero, List.getElem?_cons_succ, List.set_cons_zero, List.set_cons_succ, if_true, if_false, Bool.false_eq_true, ite_true, ite_false, up_same, reduceIte, decide_true, decide_false, true_and, and_true, eqv_int, eqv_bool, eqv_TI, eqv_LI, eqv_TT, eqv_LT, eqv_nilL, eqv_nilT, shaped_TI, shaped_LI, shaped_TT, shaped_LT, shaped_int, shaped_bool, shaped_nilL, shaped_nilT, dints_map2, dbools_map2, datas_map, mkT_map, mkT_0, mkT_1, mkT_2, mkT_3, List.length_map, List.length_cons, List.length_nil, List.length_append, List.map_cons, List.map_nil, wipeD, Bool.not_true, Bool.not_false, eq_self, not_true_eq_false, not_false_eq_true, kitB_tt, kitB_ll, kitB_dd, kitB_bb, kitB_ib, kitB_ii, kitB_ss, kitB_tl, kitB_lt, Function.comp, datas, Option.map_some, List.cons_append, List.nil_append, CPow, le_size4, Int.toNat_natCast, rngD0, I_eq, Bo_eq, BS.qSortB, in_IT, in_IL, in_TT, in_TL, qNotN, qIsN, qSortD, qListRg, qDispT, keyX_TI, qGet, qiItems, qLockE, qLockS, qPop, qMaxDf, qLc2, qMax1, qMin1, qAppend, qExtend, tints_TI, dv_TI, Option.bind_some, qRetN, atI_0, atI_1, atI_2, mk_appT, mk_snocI, idl, rep_I, Option.map_none, eqv_idl, shaped_idl, Bool.and_self, Bool.true_and, Bool.and_true]))
local macro_rules | `(tactic| walk_at "F") => `(tactic| (try simp only [qAsg, qRet, qDrop, qIfS, qTest, qAndT, qOrT, qNotT, qAndV, qOrV, qNotV, qIf, qOp, qUn, qChain, onB, qv, qc, qgN, qgT, qgCons, qgNil, qCons, qNil, qTup, qLst, qPar, qPar3, qAug, qCB, qCall, qLen, qTupleC, qListC, qMax2, qMin2, qIntC, qSum, qAny, qAll, qIsi, tyName, qAdd, qSub, qMul, qFdiv, qMod, qPow, qI2, qCmpI, qEq, qNe, qLt, qLe, qGt, qGe, qNeg, qIx, qDGet, qDIn, qDPut, qSl, qPart, qNoPart, qNext, qFor, qiRng1, qiRng2, qiZip, qiEnum, qLc, fz, newL, List.getElem?_cons_zero, List.getElem?_cons_succ, List.set_cons_zero, List.set_cons_succ, if_true, if_false, Bool.false_eq_true, ite_true, ite_false, up_same, reduceIte, decide_true, decide_false, true_and, and_true, eqv_int, eqv_bool, eqv_TI, eqv_LI, eqv_TT, eqv_LT, eqv_nilL, eqv_nilT, shaped_TI, shaped_LI, shaped_TT, shaped_LT, shaped_int, shaped_bool, shaped_nilL, shaped_nilT, dints_map2, dbools_map2, datas_map, mkT_map, mkT_0, mkT_1, mkT_2, mkT_3, List.length_map, List.length_cons, List.length_nil, List.length_append, List.map_cons, List.map_nil, wipeD, Bool.not_true, Bool.not_false, eq_self, not_true_eq_false, not_false_eq_true, kitB_tt, kitB_ll, kitB_dd, kitB_bb, kitB_ib, kitB_ii, kitB_ss, kitB_tl, kitB_lt, Function.comp, datas, Option.map_some, List.cons_append, List.nil_append, CPow, le_size4, Int.toNat_natCast, rngD0, I_eq, Bo_eq, BS.qSortB, in_IT, in_IL, in_TT, in_TL, qNotN, qIsN, qSortD, qListRg, qDispT, keyX_TI, qGet, qiItems, qLockE, qLockS, qPop, qMaxDf, qLc2, qMax1, qMin1, qAppend, qExtend, tints_TI, dv_TI, Option.bind_some, qRetN, atI_0, atI_1, atI_2, mk_appT, mk_snocI, idl, rep_I, Option.map_none, eqv_idl, shaped_idl, Bool.and_self, Bool.true_and, Bool.and_true]))
namespace UC
open PySem L2 DL RD
end UC
end
section
set_option linter.all false
set_option maxRecDepth 100000
set_option maxHeartbeats 1000000
open PySem L2 DL RD UC
local macro_rules | `(tactic| walk_at "E") => `(tactic| (try simp only [qAsg, qRet, qDrop, qIfS, qTest, qAndT, qOrT, qNotT, qAndV, qOrV, qNotV, qIf, qOp, qUn, qChain, onB, qv, qc, qgN, qgT, qgCons, qgNil, qCons, qNil, qTup, qLst, qPar, qPar3, qAug, qCB, qCall, qLen, qTupleC, qListC, qMax2, qMin2, qIntC, qSum, qAny, qAll, qIsi, tyName, qAdd, qSub, qMul, qFdiv, qMod, qPow, qI2, qCmpI, qEq, qNe, qLt, qLe, qGt, qGe, qNeg, qIx, qDGet, qDIn, qDPut, qSl, qPart, qNoPart, qNext, qFor, qiSeq, qiRng1, qiRng2, qiZip, qiEnum, qLc, seqSrc, lsrc, titems, litems, sitems, fz, newL, List.getElem?_cons_zero, List.getElem?_cons_succ, List.set_cons_zero, List.set_cons_succ, if_true, if_false, Bool.false_eq_true, ite_true, ite_false, up_same, reduceIte, decide_true, decide_false, true_and, and_true]))
local macro_rules | `(tactic| walk_at "D") => `(tactic| (try simp only [qAsg, qRet, qDrop, qIfS, qTest, qAndT, qOrT, qNotT, qAndV, qOrV, qNotV, qIf, qOp, qUn, qChain, onB, qv, qc, qgN, qgT, qgCons, qgNil, qCons, qNil, qTup, qLst, qPar, qPar3, qAug, qCB, qCall, qLen, qTupleC, qListC, qMax2, qMin2, qIntC, qSum, qAny, qAll, qIsi, tyName, qAdd, qSub, qMul, qFdiv, qMod, qPow, qI2, qCmpI, qEq, qNe, qLt, qLe, qGt, qGe, qNeg, qIx, qDGet, qDIn, qDPut, qSl, qPart, qNoPart, qNext, qFor, qiSeq, qiRng1, qiRng2, qiZip, qiEnum, qLc, seqSrc, lsrc, titems, litems, sitems, fz, newL, List.getElem?_cons_zero, List.getElem?_cons_succ, List.set_cons_zero, List.set_cons_succ, if_true, if_false, Bool.false_eq_true, ite_true, ite_false, up_same, reduceIte, decide_true, decide_false, true_and, and_true, eqv_int, eqv_bool, eqv_TI, eqv_LI, eqv_TT, eqv_LT, eqv_nilL, eqv_nilT, shaped_TI, shaped_LI, shaped_TT, shaped_LT, shaped_int, shaped_bool, shaped_nilL, shaped_nilT, dints_map2, dbools_map2, datas_map, mkT_map, mkT_0, mkT_1, mkT_2, mkT_3, List.length_map, List.length_cons, List.length_nil, List.length_append, List.map_cons, List.map_nil, wipeD, Bool.not_true, Bool.not_false, eq_self, not_true_eq_false, not_false_eq_true, kitB_tt, kitB_ll, kitB_dd, kitB_bb, kitB_ib, kitB_ii, kitB_ss, kitB_tl, kitB_lt, Function.comp, datas, Option.map_some, List.cons_append, List.nil_append, CPow, le_size4, Int.toNat_natCast, rngD0, I_eq, Bo_eq, BS.qSortB, in_IT, in_IL, in_TT, in_TL, qNotN, qIsN, qSortD, qListRg, qDispT, keyX_TI, qGet, qiItems, qLockE, qLockS, qPop, qMaxDf, qLc2, qMax1, qMin1, qAppend, qExtend, tints_TI, dv_TI, Option.bind_some, qRetN, atI_0, atI_1, atI_2, mk_appT, mk_snocI, idl, rep_I, Option.map_none, eqv_idl, shaped_idl, Bool.and_self, Bool.true_and, Bool.and_true]))
local macro_rules | `(tactic| walk_at "F") => `(tactic| (try simp only [qAsg, qRet, qDrop, qIfS, qTest, qAndT, qOrT, qNotT, qAndV, qOrV, qNotV, qIf, qOp, qUn, qChain, onB, qv, qc, qgN, qgT, qgCons, qgNil, qCons, qNil, qTup, qLst, qPar, qPar3, qAug, qCB, qCall, qLen, qTupleC, qListC, qMax2, qMin2, qIntC, qSum, qAny, qAll, qIsi, tyName, qAdd, qSub, qMul, qFdiv, qMod, qPow, qI2, qCmpI, qEq, qNe, qLt, qLe, qGt, qGe, qNeg, qIx, qDGet, qDIn, qDPut, qSl, qPart, qNoPart, qNext, qFor, qiRng1, qiRng2, qiZip, qiEnum, qLc, fz, newL, List.getElem?_cons_zero, List.getElem?_cons_succ, List.set_cons_zero, List.set_cons_succ, if_true, if_false, Bool.false_eq_true, ite_true, ite_false, up_same, reduceIte, decide_true, decide_false, true_and, and_true, eqv_int, eqv_bool, eqv_TI, eqv_LI, eqv_TT, eqv_LT, eqv_nilL, eqv_nilT, shaped_TI, shaped_LI, shaped_TT, shaped_LT, shaped_int, shaped_bool, shaped_nilL, shaped_nilT, dints_map2, dbools_map2, datas_map, mkT_map, mkT_0, mkT_1, mkT_2, mkT_3, List.length_map, List.length_cons, List.length_nil, List.length_append, List.map_cons, List.map_nil, wipeD, Bool.not_true, Bool.not_false, eq_self, not_true_eq_false, not_false_eq_true, kitB_tt, kitB_ll, kitB_dd, kitB_bb, kitB_ib, kitB_ii, kitB_ss, kitB_tl, kitB_lt, Function.comp, datas, Option.map_some, List.cons_append, List.nil_append, CPow, le_size4, Int.toNat_natCast, rngD0, I_eq, Bo_eq, BS.qSortB, in_IT, in_IL, in_TT, in_TL, qNotN, qIsN, qSortD, qListRg, qDispT, keyX_TI, qGet, qiItems, qLockE, qLockS, qPop, qMaxDf, qLc2, qMax1, qMin1, qAppend, qExtend, tints_TI, dv_TI, Option.bind_some, qRetN, atI_0, atI_1, atI_2, mk_appT, mk_snocI, idl, rep_I, Option.map_none, eqv_idl, shaped_idl, Bool.and_self, Bool.true_and, Bool.and_true]))
namespace UC
open PySem L2 DL RD
def codeN (w : Nat) : List Int → Nat
  | [] => 0
  | x :: r => x.toNat + (w + 1) * codeN w r
theorem codeN_lt {w : Nat} : ∀ {a : List Int}, (∀ x ∈ a, 0 ≤ x ∧ x ≤ w) → codeN w a < (w + 1) ^ a.length
  | [], _ => by simp [codeN]
  | x :: r, h => by
    have h1 := h x List.mem_cons_self
    have h2 := codeN_lt (w := w) (a := r) fun y hy => h y (List.mem_cons_of_mem _ hy)
    rw [codeN, List.length_cons, Nat.pow_succ, Nat.mul_comm _ (w + 1)]
    have : (w + 1) * (codeN w r + 1) ≤ (w + 1) * (w + 1) ^ r.length := Nat.mul_le_mul_left _ h2
    rw [Nat.mul_add] at this
    omega
theorem codeN_inj {w : Nat} : ∀ {a b : List Int}, a.length = b.length → (∀ x ∈ a, 0 ≤ x ∧ x ≤ w) → (∀ x ∈ b, 0 ≤ x ∧ x ≤ w) → codeN w a = codeN w b → a = b
  | [], [], _, _, _, _ => rfl
  | x :: a, y :: b, hl, ha, hb, h => by
    have h1 := ha x List.mem_cons_self
    have h2 := hb y List.mem_cons_self
    simp only [codeN] at h
    have e : x.toNat = y.toNat := by
      have := congrArg (· % (w + 1)) h
      simp only [Nat.add_mul_mod_self_left] at this
      rw [Nat.mod_eq_of_lt (by omega), Nat.mod_eq_of_lt (by omega)] at this
      exact this
    have e2 : codeN w a = codeN w b := by
      rw [e] at h
      exact Nat.eq_of_mul_eq_mul_left (by omega) (Nat.add_left_cancel h)
    rw [codeN_inj (by simpa using hl) (fun z hz => ha z (List.mem_cons_of_mem _ hz)) (fun z hz => hb z (List.mem_cons_of_mem _ hz)) e2, show x = y by omega]
theorem nodup_count {L : List (List Int)} {n w : Nat} (nd : L.Nodup) (h : ∀ a ∈ L, Mon n w a) : L.length ≤ (w + 1) ^ n := by
  have nf : (L.map (codeN w)).Nodup := List.pairwise_map.mpr (List.Pairwise.imp_of_mem (fun {a b} ha hb hne e => hne (codeN_inj ((h a ha).1.trans (h b hb).1.symm) (h a ha).2 (h b hb).2 e)) nd)
  have := L2.nat_nodup_len (L.map (codeN w)) (List.range ((w + 1) ^ n)) nf fun x hx => by
    obtain ⟨a, ha, rfl⟩ := List.mem_map.mp hx
    have := codeN_lt (h a ha).2
    rw [(h a ha).1] at this
    exact List.mem_range.mpr this
  rw [List.length_map, List.length_range] at this
  exact this
end UC
end
section
set_option linter.all false
set_option maxRecDepth 100000
set_option maxHeartbeats 1000000
open PySem L2 DL RD UC
local macro_rules | `(tactic| walk_at "E") => `(tactic| (try simp only [qAsg, qRet, qDrop, qIfS, qTest, qAndT, qOrT, qNotT, qAndV, qOrV, qNotV, qIf, qOp, qUn, qChain, onB, qv, qc, qgN, qgT, qgCons, qgNil, qCons, qNil, qTup, qLst, qPar, qPar3, qAug, qCB, qCall, qLen, qTupleC, qListC, qMax2, qMin2, qIntC, qSum, qAny, qAll, qIsi, tyName, qAdd, qSub, qMul, qFdiv, qMod, qPow, qI2, qCmpI, qEq, qNe, qLt, qLe, qGt, qGe, qNeg, qIx, qDGet, qDIn, qDPut, qSl, qPart, qNoPart, qNext, qFor, qiSeq, qiRng1, qiRng2, qiZip, qiEnum, qLc, seqSrc, lsrc, titems, litems, sitems, fz, newL, List.getElem?_cons_zero, List.getElem?_cons_succ, List.set_cons_zero, List.set_cons_succ, if_true, if_false, Bool.false_eq_true, ite_true, ite_false, up_same, reduceIte, decide_true, decide_false, true_and, and_true]))
local macro_rules | `(tactic| walk_at "D") => `(tactic| (try simp only [qAsg, qRet, qDrop, qIfS, qTest, qAndT, qOrT, qNotT, qAndV, qOrV, qNotV, qIf, qOp, qUn, qChain, onB, qv, qc, qgN, qgT, qgCons, qgNil, qCons, qNil, qTup, qLst, qPar, qPar3, qAug, qCB, qCall, qLen, qTupleC, qListC, qMax2, qMin2, qIntC, qSum, qAny, qAll, qIsi, tyName, qAdd, qSub, qMul, qFdiv, qMod, qPow, qI2, qCmpI, qEq, qNe, qLt, qLe, qGt, qGe, qNeg, qIx, qDGet, qDIn, qDPut, qSl, qPart, qNoPart, qNext, qFor, qiSeq, qiRng1, qiRng2, qiZip, qiEnum, qLc, seqSrc, lsrc, titems, litems, sitems, fz, newL, List.getElem?_cons_zero, List.getElem?_cons_succ, List.set_cons_zero, List.set_cons_succ, if_true, if_false, Bool.false_eq_true, ite_true, ite_false, up_same, reduceIte, decide_true, decide_false, true_and, and_true, eqv_int, eqv_bool, eqv_TI, eqv_LI, eqv_TT, eqv_LT, eqv_nilL, eqv_nilT, shaped_TI, shaped_LI, shaped_TT, shaped_LT, shaped_int, shaped_bool, shaped_nilL, shaped_nilT, dints_map2, dbools_map2, datas_map, mkT_map, mkT_0, mkT_1, mkT_2, mkT_3, List.length_map, List.length_cons, List.length_nil, List.length_append, List.map_cons, List.map_nil, wipeD, Bool.not_true, Bool.not_false, eq_self, not_true_eq_false, not_false_eq_true, kitB_tt, kitB_ll, kitB_dd, kitB_bb, kitB_ib, kitB_ii, kitB_ss, kitB_tl, kitB_lt, Function.comp, datas, Option.map_some, List.cons_append, List.nil_append, CPow, le_size4, Int.toNat_natCast, rngD0, I_eq, Bo_eq, BS.qSortB, in_IT, in_IL, in_TT, in_TL, qNotN, qIsN, qSortD, qListRg, qDispT, keyX_TI, qGet, qiItems, qLockE, qLockS, qPop, qMaxDf, qLc2, qMax1, qMin1, qAppend, qExtend, tints_TI, dv_TI, Option.bind_some, qRetN, atI_0, atI_1, atI_2, mk_appT, mk_snocI, idl, rep_I, Option.map_none, eqv_idl, shaped_idl, Bool.and_self, Bool.true_and, Bool.and_true]))
local macro_rules | `(tactic| walk_at "F") => `(tactic| (try simp only [qAsg, qRet, qDrop, qIfS, qTest, qAndT, qOrT, qNotT, qAndV, qOrV, qNotV, qIf, qOp, qUn, qChain, onB, qv, qc, qgN, qgT, qgCons, qgNil, qCons, qNil, qTup, qLst, qPar, qPar3, qAug, qCB, qCall, qLen, qTupleC, qListC, qMax2, qMin2, qIntC, qSum, qAny, qAll, qIsi, tyName, qAdd, qSub, qMul, qFdiv, qMod, qPow, qI2, qCmpI, qEq, qNe, qLt, qLe, qGt, qGe, qNeg, qIx, qDGet, qDIn, qDPut, qSl, qPart, qNoPart, qNext, qFor, qiRng1, qiRng2, qiZip, qiEnum, qLc, fz, newL, List.getElem?_cons_zero, List.getElem?_cons_succ, List.set_cons_zero, List.set_cons_succ, if_true, if_false, Bool.false_eq_true, ite_true, ite_false, up_same, reduceIte, decide_true, decide_false, true_and, and_true, eqv_int, eqv_bool, eqv_TI, eqv_LI, eqv_TT, eqv_LT, eqv_nilL, eqv_nilT, shaped_TI, shaped_LI, shaped_TT, shaped_LT, shaped_int, shaped_bool, shaped_nilL, shaped_nilT, dints_map2, dbools_map2, datas_map, mkT_map, mkT_0, mkT_1, mkT_2, mkT_3, List.length_map, List.length_cons, List.length_nil, List.length_append, List.map_cons, List.map_nil, wipeD, Bool.not_true, Bool.not_false, eq_self, not_true_eq_false, not_false_eq_true, kitB_tt, kitB_ll, kitB_dd, kitB_bb, kitB_ib, kitB_ii, kitB_ss, kitB_tl, kitB_lt, Function.comp, datas, Option.map_some, List.cons_append, List.nil_append, CPow, le_size4, Int.toNat_natCast, rngD0, I_eq, Bo_eq, BS.qSortB, in_IT, in_IL, in_TT, in_TL, qNotN, qIsN, qSortD, qListRg, qDispT, keyX_TI, qGet, qiItems, qLockE, qLockS, qPop, qMaxDf, qLc2, qMax1, qMin1, qAppend, qExtend, tints_TI, dv_TI, Option.bind_some, qRetN, atI_0, atI_1, atI_2, mk_appT, mk_snocI, idl, rep_I, Option.map_none, eqv_idl, shaped_idl, Bool.and_self, Bool.true_and, Bool.and_true]))
namespace UC
open PySem L2 DL RD
end UC
end
section
set_option linter.all false
set_option maxRecDepth 100000
set_option maxHeartbeats 1000000
namespace UC
open PySem L2 DL RD
theorem nodup_map_of {α β : Type} {f : α → β} {l : List α} (nd : l.Nodup) (h : ∀ a ∈ l, ∀ b ∈ l, f a = f b → a = b) : (l.map f).Nodup :=
  List.pairwise_map.mpr (List.Pairwise.imp_of_mem (fun {a b} ha hb hne e => hne (h a ha b hb e)) nd)
/-- those below a monomial, exponent by exponent -/
def Bel (n : Nat) (c a : List Int) : Prop := a.length = n ∧ ∀ j < n, 0 ≤ gd a j ∧ gd a j ≤ gd c j
theorem Bel.nn {n : Nat} {c a : List Int} (h : Bel n c a) : NN n a := nn_of_gd h.1 fun j hj => (h.2 j hj).1
end UC
end
section
set_option linter.all false
set_option maxRecDepth 100000
set_option maxHeartbeats 1000000
namespace UC
open PySem L2 DL RD
end UC
end
section
set_option linter.all false
set_option maxRecDepth 100000
set_option maxHeartbeats 1000000
open PySem L2 DL RD UC
local macro_rules | `(tactic| walk_at "E") => `(tactic| (try simp only [qAsg, qRet, qDrop, qIfS, qTest, qAndT, qOrT, qNotT, qAndV, qOrV, qNotV, qIf, qOp, qUn, qChain, onB, qv, qc, qgN, qgT, qgCons, qgNil, qCons, qNil, qTup, qLst, qPar, qPar3, qAug, qCB, qCall, qLen, qTupleC, qListC, qMax2, qMin2, qIntC, qSum, qAny, qAll, qIsi, tyName, qAdd, qSub, qMul, qFdiv, qMod, qPow, qI2, qCmpI, qEq, qNe, qLt, qLe, qGt, qGe, qNeg, qIx, qDGet, qDIn, qDPut, qSl, qPart, qNoPart, qNext, qFor, qiSeq, qiRng1, qiRng2, qiZip, qiEnum, qLc, seqSrc, lsrc, titems, litems, sitems, fz, newL, List.getElem?_cons_zero, List.getElem?_cons_succ, List.set_cons_zero, List.set_cons_succ, if_true, if_false, Bool.false_eq_true, ite_true, ite_false, up_same, reduceIte, decide_true, decide_false, true_and, and_true]))
local macro_rules | `(tactic| walk_at "D") => `(tactic| (try simp only [qAsg, qRet, qDrop, qIfS, qTest, qAndT, qOrT, qNotT, qAndV, qOrV, qNotV, qIf, qOp, qUn, qChain, onB, qv, qc, qgN, qgT, qgCons, qgNil, qCons, qNil, qTup, qLst, qPar, qPar3, qAug, qCB, qCall, qLen, qTupleC, qListC, qMax2, qMin2, qIntC, qSum, qAny, qAll, qIsi, tyName, qAdd, qSub, qMul, qFdiv, qMod, qPow, qI2, qCmpI, qEq, qNe, qLt, qLe, qGt, qGe, qNeg, qIx, qDGet, qDIn, qDPut, qSl, qPart, qNoPart, qNext, qFor, qiSeq, qiRng1, qiRng2, qiZip, qiEnum, qLc, seqSrc, lsrc, titems, litems, sitems, fz, newL, List.getElem?_cons_zero, List.getElem?_cons_succ, List.set_cons_zero, List.set_cons_succ, if_true, if_false, Bool.false_eq_true, ite_true, ite_false, up_same, reduceIte, decide_true, decide_false, true_and, and_true, eqv_int, eqv_bool, eqv_TI, eqv_LI, eqv_TT, eqv_LT, eqv_nilL, eqv_nilT, shaped_TI, shaped_LI, shaped_TT, shaped_LT, shaped_int, shaped_bool, shaped_nilL, shaped_nilT, dints_map2, dbools_map2, datas_map, mkT_map, mkT_0, mkT_1, mkT_2, mkT_3, List.length_map, List.length_cons, List.length_nil, List.length_append, List.map_cons, List.map_nil, wipeD, Bool.not_true, Bool.not_false, eq_self, not_true_eq_false, not_false_eq_true, kitB_tt, kitB_ll, kitB_dd, kitB_bb, kitB_ib, kitB_ii, kitB_ss, kitB_tl, kitB_lt, Function.comp, datas, Option.map_some, List.cons_append, List.nil_append, CPow, le_size4, Int.toNat_natCast, rngD0, I_eq, Bo_eq, BS.qSortB, in_IT, in_IL, in_TT, in_TL, qNotN, qIsN, qSortD, qListRg, qDispT, keyX_TI, qGet, qiItems, qLockE, qLockS, qPop, qMaxDf, qLc2, qMax1, qMin1, qAppend, qExtend, tints_TI, dv_TI, Option.bind_some, qRetN, atI_0, atI_1, atI_2, mk_appT, mk_snocI, idl, rep_I, Option.map_none, eqv_idl, shaped_idl, Bool.and_self, Bool.true_and, Bool.and_true]))
local macro_rules | `(tactic| walk_at "F") => `(tactic| (try simp only [qAsg, qRet, qDrop, qIfS, qTest, qAndT, qOrT, qNotT, qAndV, qOrV, qNotV, qIf, qOp, qUn, qChain, onB, qv, qc, qgN, qgT, qgCons, qgNil, qCons, qNil, qTup, qLst, qPar, qPar3, qAug, qCB, qCall, qLen, qTupleC, qListC, qMax2, qMin2, qIntC, qSum, qAny, qAll, qIsi, tyName, qAdd, qSub, qMul, qFdiv, qMod, qPow, qI2, qCmpI, qEq, qNe, qLt, qLe, qGt, qGe, qNeg, qIx, qDGet, qDIn, qDPut, qSl, qPart, qNoPart, qNext, qFor, qiRng1, qiRng2, qiZip, qiEnum, qLc, fz, newL, List.getElem?_cons_zero, List.getElem?_cons_succ, List.set_cons_zero, List.set_cons_succ, if_true, if_false, Bool.false_eq_true, ite_true, ite_false, up_same, reduceIte, decide_true, decide_false, true_and, and_true, eqv_int, eqv_bool, eqv_TI, eqv_LI, eqv_TT, eqv_LT, eqv_nilL, eqv_nilT, shaped_TI, shaped_LI, shaped_TT, shaped_LT, shaped_int, shaped_bool, shaped_nilL, shaped_nilT, dints_map2, dbools_map2, datas_map, mkT_map, mkT_0, mkT_1, mkT_2, mkT_3, List.length_map, List.length_cons, List.length_nil, List.length_append, List.map_cons, List.map_nil, wipeD, Bool.not_true, Bool.not_false, eq_self, not_true_eq_false, not_false_eq_true, kitB_tt, kitB_ll, kitB_dd, kitB_bb, kitB_ib, kitB_ii, kitB_ss, kitB_tl, kitB_lt, Function.comp, datas, Option.map_some, List.cons_append, List.nil_append, CPow, le_size4, Int.toNat_natCast, rngD0, I_eq, Bo_eq, BS.qSortB, in_IT, in_IL, in_TT, in_TL, qNotN, qIsN, qSortD, qListRg, qDispT, keyX_TI, qGet, qiItems, qLockE, qLockS, qPop, qMaxDf, qLc2, qMax1, qMin1, qAppend, qExtend, tints_TI, dv_TI, Option.bind_some, qRetN, atI_0, atI_1, atI_2, mk_appT, mk_snocI, idl, rep_I, Option.map_none, eqv_idl, shaped_idl, Bool.and_self, Bool.true_and, Bool.and_true]))
namespace UC
open PySem L2 DL RD
abbrev cutS (A : List (List Int)) (f : List Int) : List (List Int) := A.map fun a => cutL a f
end UC
end
section
set_option linter.all false
set_option maxRecDepth 100000
set_option maxHeartbeats 1000000
namespace UC
open PySem L2 DL RD
section
variable {n : Nat} {A B : List (List Int)} {st : Sto} {Q : DV → Sto → Prop}
abbrev J (n : Nat) (A : List (List Int)) : Prop := Idl n ((3 : Nat) : Int) 49 A
end
end UC
end
section
set_option linter.all false
set_option maxRecDepth 100000
set_option maxHeartbeats 1000000
namespace UC
open PySem L2 DL RD
def Unit1 (n : Nat) (q : List Int) : Prop := q.length = n ∧ ∀ j < n, gd q j = 0 ∨ gd q j = 1
theorem Unit1.nn {n : Nat} {q : List Int} (h : Unit1 n q) : NN n q := nn_of_gd h.1 fun j hj => by rcases h.2 j hj with e | e <;> omega
end UC
end
section
set_option linter.all false
set_option maxRecDepth 100000
set_option maxHeartbeats 1000000
namespace UC
open PySem L2 DL RD
def eL (n k : Nat) : List Int := powL n k 1
theorem sum_split {n : Nat} {a : List Int} (ha : NN n a) {k : Nat} (hk : k < n) : gd a k ≤ a.sum ∧ (a.sum = gd a k → ∀ j < n, j ≠ k → gd a j = 0) := by
  have key : ∀ (a : List Int), (∀ x ∈ a, 0 ≤ x) → 0 ≤ a.sum ∧ ∀ k < a.length, gd a k ≤ a.sum ∧ (a.sum = gd a k → ∀ j < a.length, j ≠ k → gd a j = 0) := by
    intro a
    induction a with
    | nil => intro _; exact ⟨by decide, fun k hk => absurd hk (by simp)⟩
    | cons x a ih =>
      intro h
      have hx := h x List.mem_cons_self
      obtain ⟨h0, h1⟩ := ih fun y hy => h y (List.mem_cons_of_mem _ hy)
      refine ⟨by simp only [List.sum_cons]; omega, fun k hk => ?_⟩
      cases k with
      | zero =>
        refine ⟨by simp only [gd, List.getD_cons_zero, List.sum_cons]; omega, fun e j hj hne => ?_⟩
        simp only [gd, List.getD_cons_zero, List.sum_cons] at e
        cases j with
        | zero => exact absurd rfl hne
        | succ j =>
          have hj' : j < a.length := by simpa using hj
          have := (h1 j hj').1
          have := h _ (List.mem_cons_of_mem _ (gd_mem hj'))
          show gd a j = 0
          omega
      | succ k =>
        have hk' : k < a.length := by simpa using hk
        obtain ⟨h2, h3⟩ := h1 k hk'
        refine ⟨by show gd a k ≤ _; simp only [List.sum_cons]; omega, fun e j hj hne => ?_⟩
        have e' : x + a.sum = gd a k := by rw [List.sum_cons] at e; exact e
        cases j with
        | zero => show x = 0; omega
        | succ j => exact h3 (by omega) j (by simpa using hj) (by omega)
  have := (key a ha.2).2 k (by rw [ha.1]; exact hk)
  rw [ha.1] at this
  exact this
theorem sum_e {n k : Nat} (hk : k < n) : (eL n k).sum = 1 := by
  have key : ∀ (m s : Nat) (f : Nat → Int), (∀ j, s ≤ j → j < s + m → f j = if j = k then 1 else 0) → ((List.range' s m).map f).sum = if s ≤ k ∧ k < s + m then 1 else 0 := by
    intro m
    induction m with
    | zero => intro s f _; simp
    | succ m ih =>
      intro s f h
      rw [List.range'_succ, List.map_cons, List.sum_cons, ih (s + 1) f fun j h1 h2 => h j (by omega) (by omega), h s (by omega) (by omega)]
      by_cases e : s = k
      · subst e; rw [if_pos rfl, if_neg (by omega), if_pos (by omega)]; rfl
      · rw [if_neg e]
        by_cases z : s + 1 ≤ k ∧ k < s + 1 + m
        · rw [if_pos z, if_pos (by omega)]; rfl
        · rw [if_neg z, if_neg (by omega)]; rfl
  unfold eL powL
  rw [List.range_eq_range']
  rw [key n 0 _ fun j _ _ => rfl, if_pos (by omega)]
end UC
end
section
set_option linter.all false
set_option maxRecDepth 100000
set_option maxHeartbeats 1000000
namespace UC
open PySem L2 DL RD
abbrev rangeI (n : Nat) : List Int := (List.range n).map fun (k : Nat) => (k : Int)
end UC
end
section
set_option Elab.async false
set_option linter.all false
set_option maxRecDepth 100000
set_option maxHeartbeats 2000000
namespace L2
open PySem PySem.Spec PyProof.Rows
end L2
namespace DL
open PySem PySem.Spec L2 PyProof.Rows
section
variable {P : Program} {w : World} {K : PySem.W.Frag} {mg : Str → Option Value} {base : Heap} {X : Cx} {N : List Str} {sc fs : Scope} {k : Nat}
/-- xs[i] = v -/
def qLPut (to ti tv : TD) : TDs := fun D ε st => tv ε st fun v s1 => to ε s1 fun x s2 => ti ε s2 fun y s3 => match x, y with
  | .r a, .d (.int i) => ∃ xs j, s3 a = some (.lst xs) ∧ ixN xs.length i = some j ∧ D.nx ε (up s3 a (.lst (xs.set j v)))
  | _, _ => False
end
end DL
end
section
set_option Elab.async false
set_option linter.all false
set_option maxRecDepth 100000
set_option maxHeartbeats 2000000
namespace L2
open PySem PySem.Spec PyProof.Rows
end L2
namespace DL
open PySem PySem.Spec L2 PyProof.Rows
end DL
end
section
set_option Elab.async false
set_option linter.all false
set_option maxRecDepth 100000
set_option maxHeartbeats 2000000
namespace L2
open PySem PySem.Spec PyProof.Rows
/-- a promise that is kept where no guard stands -/
structure FnG (P : Program) (w : World) (K : PySem.W.Frag) (mg : Str → Option Value) (bs : Heap) (k : Nat) (f : Addr) (fd : FuncData) (ps : List Str) (sp : Sp) : Prop where
  lenG : ∀ vs H Q E, sp vs H Q E → vs.length = ps.length
  runG : ∀ (A : Around) (out : List Env) (s : Shared) (H : Hp) (ar : Args) (us : List Value) (vs : List V) (Q : VK) (E : XK), A.guards = some [] → Room k A → Env0 P w K mg bs A out s H → BindsTo s fd ar (ps.zip us) →
    Vals vs us → sp vs H Q E → codeAny (model P w) A (.call (.ref f) ar) (CR CX0 out P w H s Q E) s
theorem fnG_of {P : Program} {w : World} {K : PySem.W.Frag} {mg : Str → Option Value} {bs : Heap} {k : Nat} {f : Addr} {nm qual : Str} {pr : Arguments} {body : List Stmt} {sc : Scope} {dV kV dc pm cdv ct oc : Value} {an od : Option Addr}
    {sl : Array (Option Value)} {N ps : List Str} {sp : Sp} (look : K.lookup f = some ⟨oc, od, .func (PySem.W.fnOf nm qual pr body sc dV kV dc pm an cdv ct), sl⟩) (code : PySem.W.codeIn K cdv qual = true) (S : FnScope N ps sc)
    (hlen : ∀ vs H Q E, sp vs H Q E → vs.length = ps.length)
    (hb : ∀ (A : Around) (out : List Env) (s : Shared) (H : Hp) (vs : List V) (Q : VK) (E : XK), A.guards = some [] → Room k (A.deeper (envOfC qual sc s.heap.objs.size f cdv)) → sp vs H Q E →
      ∃ t, PSs (cxOf CX0 P w K mg bs N qual sc f cdv A out s H E) body t ∧ t { nx := fun _ H' => Q .non H', rt := Q } (start N vs) H) :
    FnG P w K mg bs (k + 1) f (PySem.W.fnOf nm qual pr body sc dV kV dc pm an cdv ct) ps sp := by
  refine ⟨hlen, fun A out s H ar us vs Q E hg room en bd rv hsp => ?_⟩
  have len1 := hlen _ _ _ _ hsp
  have inK : K.In s.heap := en.mod.kin.keeps fun b o e => (en.bs b o e).1
  have noLim : s.heap.NoLimit := en.mod.nolimit.keeps fun b o e => (en.bs b o e).1
  have kinds : ∀ y ∈ ps.zip us, sc.names.lookup y.1 = some .local ∨ (sc.names.lookup y.1 = some .cell ∧ ((cellsFrom (s.heap.objs.size + 1) sc.names []).lookup y.1).isSome = true) := fun ⟨n, v⟩ hy =>
    (S.par n (List.of_mem_zip hy).1).elim (fun q => .inl q) fun q => .inr ⟨q, PySem.W.cellsFrom_some _ _ _ (.inl q)⟩
  refine codeAny_call_function room.depth (inK _ _ look) rfl S.co S.gen rfl (PySem.W.codeRec_of inK code) (bd _ _ _ _ (wpAny_newFunctionEnv_cells S.kind kinds fun env he s1 xi => ?_))
  cases he
  refine ⟨noLim.keeps xi.toInCall.keep, codeAny_func ?_⟩
  obtain ⟨t, ht, hq⟩ := hb A out s H vs Q E hg (room.deeper _) hsp
  have J0 := inv_start (CX := CX0) (E := E) S room.hd en len1 rv xi
  refine wpAny_mono (ht.run [] s1 (start N vs) H _ J0 hq) (fun fl s' z => ?_) fun e s' z => z
  cases fl with
  | ret u => exact let ⟨v, _, H', J, r2, q⟩ := z; ⟨v, H', J.os, J.bare, J.base, J.hok, r2, q⟩
  | next => exact let ⟨_, H', J, q⟩ := z; ⟨V.non, H', J.os, J.bare, J.base, J.hok, rfl, q⟩
  | brk => exact let ⟨_, _, _, q⟩ := z; q.elim
  | cont => exact let ⟨_, _, _, q⟩ := z; q.elim
/-- the law's call, from such a promise -/
theorem law_callG {P : Program} {w : World} {K : PySem.W.Frag} {mg mb : Str → Option Value} {k : Nat} {fa a : Addr} {fd : FuncData} {x : Str} {sp : Sp} {s₁ : Shared} {vs : List Value} {ns : List Int}
    (inK : K.In s₁.heap) (nsM : s₁.heap.Ns mainGlobals mg) (nsB : s₁.heap.Ns builtinsNs mb) (boot : ∀ x : Str, x ≠ "__name__" → mb x = bootBuiltins x) (noL : s₁.heap.NoLimit) (gens : s₁.gens = #[])
    (at_a : s₁.heap.get? a = some { cls := .type "list", data := .seq vs.toArray }) (hin : IntsAre vs ns) (few : ns.length ≤ sizeLine) (room : Room k callerA)
    (F : ∀ bs : Heap, K.In bs → bs.Ns mainGlobals mg → FnG P w K mg bs k fa fd [x] sp) (bind : ∀ (s : Shared) (u : Value), BindsTo s fd ⟨[u], []⟩ [(x, u)])
    (want : ∀ H : Hp, Only H → SqL K H a (ns.map V.int) → sp [.ref a] H (fun v _ => v = .bl true) fun _ _ _ => False) :
    codeAny (model P w) callerA (.call (.ref fa) ⟨[.ref a], []⟩) (fun r s' => r = .ok (.ret (.bool true)) ∧ OldK s₁.heap s'.heap ∧ s'.os = s₁.os ∧ AllBare s'.gens) s₁ := by
  have rel := vals_ints hin
  have lenI := hin.length
  have main : ∀ H : Hp, Only H → SqL K H a (ns.map V.int) → HOk P w H s₁.heap → (∀ b, H b ≠ none → b = a) → (H a ≠ none → K.lookup a = none) →
      codeAny (model P w) callerA (.call (.ref fa) ⟨[.ref a], []⟩) (fun r s' => r = .ok (.ret (.bool true)) ∧ OldK s₁.heap s'.heap ∧ s'.os = s₁.os ∧ AllBare s'.gens) s₁ := by
    intro H only sq hok alone free
    have stay : ∀ {b : Addr} {o : Obj}, s₁.heap.get? b = some o → H b = none → (hidT s₁.heap H).get? b = some o := fun e n => hidT_get e n
    have dictNo : ∀ {b : Addr} {o : Obj} {es : Array DictEntry} {ep : Nat}, s₁.heap.get? b = some o → o.data = .dict es ep → H b = none := fun {b o es ep} e d =>
      Classical.byContradiction fun hne => by
        have z := alone b hne
        subst z
        have e2 := at_a.symm.trans e
        cases e2
        exact Data.noConfusion (show Data.seq vs.toArray _ = Data.dict es ep from d)
    have nsOf : ∀ {b : Addr} {m : Str → Option Value}, s₁.heap.Ns b m → (hidT s₁.heap H).Ns b m := fun {b m} ⟨o, es, ep, e, d, r⟩ => ⟨o, es, ep, stay e (dictNo e d), d, r⟩
    have inKb : K.In (hidT s₁.heap H) := fun b o e => stay (inK b o e) (Classical.byContradiction fun hne => by
      have z := alone b hne
      subst z
      have e3 := free hne
      rw [e3] at e
      cases e)
    have modl : Mod K mg (hidT s₁.heap H) := ⟨inKb, nsOf nsM, ⟨mb, nsOf nsB, boot⟩, let ⟨mc, h1, h2⟩ := noL; ⟨mc, nsOf h1, h2⟩⟩
    have en : Env0 P w K mg (hidT s₁.heap H) callerA [] s₁ H := ⟨rfl, modl, fun b o e => of_hidT e, Nat.le_of_eq (hidT_size _ _), trivial, (fun b hb => absurd (show b ∈ ([] : List Addr) from hb) (by simp)), hok, .of_eq gens⟩
    refine codeAny_mono ((F _ inKb (nsOf nsM)).runG callerA [] s₁ H ⟨[.ref a], []⟩ [.ref a] [.ref a] _ _ rfl room en (bind s₁ (.ref a)) (.cons rfl .nil) (want H only sq)) fun r s' z => ?_
    cases r with
    | error e => exact z.elim
    | ok fl =>
      cases fl with
      | next => exact z.elim
      | brk => exact z.elim
      | cont => exact z.elim
      | ret u =>
        obtain ⟨v, H', os, bare, un, hok', r', q⟩ := z
        have ev : v = .bl true := q
        subst ev
        have eu : u = Value.bool true := r'
        subst eu
        refine ⟨rfl, OldK.of_keep fun b o e => ?_, os, bare⟩
        cases hb : H b with
        | none => exact un.keep b o e hb (fun y => absurd (show b ∈ ([] : List Addr) from y) (by simp)) (by simp)
        | some u =>
          rcases only b with y | ⟨ob, xs, y⟩
          · exact absurd (hb.symm.trans y) (fun y => nomatch y)
          · have e1 := (hok b _ y).1
            have e2 := (hok' b _ (un.frzs b ob _ y)).1
            rw [e] at e1
            cases e1
            exact e2
  by_cases hk : K.lookup a = none
  · refine main (fun b => if b = a then some (.frz { cls := .type "list", data := .seq vs.toArray } (.lst (ns.map V.int))) else none) (fun b => ?_) (.inl (.inr ⟨{ cls := .type "list", data := .seq vs.toArray }, if_pos rfl⟩)) (fun b u z => ?_) (fun b z => ?_) fun _ => hk
    · by_cases e : b = a
      · exact .inr ⟨_, _, if_pos e⟩
      · exact .inl (if_neg e)
    · by_cases e : b = a
      · have z2 := (if_pos e).symm.trans z
        cases z2
        subst e
        exact ⟨at_a, by rw [List.length_map]; exact few, vs, _, rel, at_a⟩
      · have z2 := (if_neg e).symm.trans z
        cases z2
    · exact Classical.byContradiction fun e => z (if_neg e)
  · obtain ⟨o, ho⟩ := Option.ne_none_iff_exists'.mp hk
    have e := (inK a o ho).symm.trans at_a
    cases e
    refine main (fun _ => none) (fun _ => .inl rfl) (.inr ⟨_, vs.toArray, _, ho, rfl, rfl, rfl, ?_, ?_⟩) (fun b u z => nomatch z) (fun b z => absurd rfl z) fun z => absurd rfl z
    · rw [List.size_toArray, lenI]
      exact few
    · simpa using rel
theorem walk_ofG {l : PySem.W.OpenLaw} {n k : Nat} {q : Program} {loose : List Str} {XP : (Str → Option Value) → Heap → Prop} {YP : World → Heap → Prop} {d : DefRec} {K : Params → PySem.W.Frag} {sp : World → Sp} {x : Str}
    (hn : l.most = some n) (few : n ≤ sizeLine) (hdf : d.params.defaults = []) (room : Room k callerA)
    (hY : ∀ (w : World) (h : Heap), YP w h → (K w.params).In h)
    (F : ∀ (w : World) (mg : Str → Option Value) (fa : Addr) (h : Heap), (K w.params).In h → h.Ns mainGlobals mg → mg d.name = some (.ref fa) →
      ∃ fd : FuncData, (∀ (s : Shared) (u : Value), BindsTo s fd ⟨[u], []⟩ [(x, u)]) ∧ ∀ bs : Heap, (K w.params).In bs → bs.Ns mainGlobals mg → FnG l.prog w (K w.params) mg bs k fa fd [x] (sp w))
    (want : ∀ (w : World) (H : Hp) (a : Addr) (ns : List Int), ns.length ≤ n → Only H → SqL (K w.params) H a (ns.map V.int) → sp w [.ref a] H (fun v _ => v = .bl true) fun _ _ _ => False) :
    PySem.W.WalkO q loose XP YP l.row.toRowW d [] (fun f vs => PySem.call f vs) := by
  refine Att.attach_call hn hdf fun w s₀ s₁ mg mb fa o pm cd doc a vs ns G Y ho hd hcd hmg hobj hints hlen hg => ?_
  obtain ⟨fd, hb, hF⟩ := F w mg fa _ (hY w _ Y) G.T.g hmg
  exact law_callG (hY w _ Y) G.T.g G.T.b G.T.builtins G.T.nolimit hg hobj hints (Nat.le_trans hlen few) room hF hb fun H only sq => want w H a ns hlen only sq
end L2
end
section
set_option Elab.async false
set_option linter.all false
set_option maxRecDepth 100000
set_option maxHeartbeats 2000000
namespace DL
open PySem PySem.Spec L2 PyProof.Rows
section
variable {P : Program} {w : World} {K : PySem.W.Frag} {mg : Str → Option Value} {base : Heap} {X : Cx} {N : List Str} {sc fs : Scope} {k : Nat}
theorem fnG_ok {x qual : Str} {s : Stmt} {f : Addr} {fd : FuncData} {ps : List Str} {sp : SpD} {t : TDs} (Fu : Fun K x qual s f fd) (S : FnScope N ps (defScope s)) (len : ∀ xs st Q, sp xs st Q → xs.length = ps.length)
    (body : ∀ X, Cok P w K mg base X N (defScope s) (defScope s) k → X.A.guards = some [] → DSs X (defBody s) t)
    (sem : ∀ xs st Q, sp xs st Q → t { nx := fun _ st' => Fg Q (.d .none) st', rt := Fg Q } (startD N.length xs) st) : FnG P w K mg base (k + 1) f fd ps (hsp K sp) := by
  obtain ⟨oc, od, kV, doc, pm, an, cdv, ct, osl, rfl, lk, hcd⟩ := Fu.ex
  refine fnG_of lk hcd S (fun vs H Q E ⟨F, st, xs, Qd, R, r, h, kk⟩ => r.length.trans (len xs st Qd h)) fun A out s' H vs Q E hg hr ⟨F, st, xs, Qd, R, r, h, kk⟩ => ?_
  have c : Cok P w K mg base (cxOf CX0 P w K mg base N qual (defScope s) f cdv A out s' H E).nox N (defScope s) (defScope s) k :=
    ⟨rfl, rfl, rfl, rfl, rfl, rfl, S.nd, S.kind, rfl, rfl, fun _ _ => rfl, hr, fun _ _ h => h.elim⟩
  obtain ⟨ts, p, a⟩ := body _ c hg
  have fin : ∀ F' v H' x' st', Step F H st F' H' st' → Rs K F' H' st' → RV K F' v x' → Fg Qd x' st' → Q v H' := fun F' v H' x' st' t R' r' ⟨st2, le, q⟩ =>
    kk F' v H' x' st2 ⟨t.ex, fun b o e n => ⟨(t.pres b o e n).1, by
      cases e2 : st2 b with
      | none => rfl
      | some m =>
        have z := le b m e2
        rw [(t.pres b o e n).2] at z
        cases z⟩, t.fnew⟩ (R'.le le) r' q
  refine ⟨ts, p.nox, a F _ H (startD N.length xs) st _ _ R (start_re r N) (sem xs st Qd h) ⟨fun F' σ' H' ε' st' t R' E' q => fin F' .non H' (.d .none) st' t R' (.d .non) q, fin, fun _ _ _ _ _ _ _ _ z => z.elim, fun _ _ _ _ _ _ _ _ z => z.elim⟩⟩
theorem bb_repr : bootBuiltins "repr" = some (.builtin "repr") := by decide +kernel
def reprOk (d : PyData) : Prop := d.showable = true ∧ d.hasDict = false ∧ d.depth ≤ 16 ∧ d.shown.length ≤ sizeLine
def rRepr (K : PySem.W.Frag) : List V → Hp → VK → Prop := fun vs H Q => ∃ v d, vs = [v] ∧ Dp K H v d ∧ reprOk d ∧ (∀ x, d ≠ .str x) ∧ Q (.str d.shown) H
theorem cr_repr (hg : X.A.guards = some []) (hu : X.A.units + 64 < cLine) : CallR X (.builtin "repr") (rRepr X.K) := by
  intro pins s σ H vs us Q I r h
  obtain ⟨v, d, rfl, hd, ⟨h1, h2, h3, h4⟩, hs, q⟩ := h
  obtain ⟨u, rfl, ru⟩ := r.one
  obtain ⟨as, rd⟩ := Dp.reads I d v u hd ru
  have disp : ∀ {a : Addr}, u = .ref a → wpAny (model X.prog X.w) X.A (call (.builtin "repr") [u]) (EP X pins σ Q) X.xe s := fun {a} e => by
    subst e
    exact repr_of_reads' rd h1 (PyData.noDict_hsm h2) hg (by omega) (fun _ _ e => e) (fun h' u tk hk => ⟨.str d.shown, H, I.kept (t' := tk) hk, ⟨_, rfl⟩, q⟩) h4
  cases hd with
  | non =>
    cases ru
    exact PySem.P.repr_of_none ⟨.str _, H, I.tok _, ⟨_, rfl⟩, q⟩
  | bl b =>
    cases ru
    exact PySem.P.repr_of_bool ⟨.str _, H, I.tok _, ⟨_, rfl⟩, q⟩
  | int i =>
    obtain ⟨t, rfl⟩ := ru
    exact PySem.P.repr_of_int (of_decide_eq_true h1) ⟨.str _, H, I.tok _, ⟨_, rfl⟩, q⟩
  | str x => exact absurd rfl (hs x)
  | lst _ _ => exact disp ru
  | tup _ _ => exact disp ru
def qRepr : RLD := fun xs st Q => match xs with
  | [x] => (match fz st x with
    | some d => reprOk d ∧ (∀ x, d ≠ .str x) ∧ Q (.d (.str d.shown)) st
    | none => False)
  | _ => False
theorem c_repr (hg : X.A.guards = some []) (hu : X.A.units + 64 < cLine) : ∃ r', CallR X (.builtin "repr") r' ∧ SL X.K r' qRepr := by
  refine ⟨_, cr_repr hg hu, ?_⟩
  intro F H st vs xs Qd Q R rv h kk
  unfold qRepr at h
  split at h
  rotate_left
  · exact h.elim
  split at h
  rotate_left
  · exact h.elim
  rename_i d e
  obtain ⟨v, rfl, r⟩ := rvs1 rv
  exact ⟨v, d, rfl, fz_dp R r e, h.1, h.2.1, kk.at R (.d (.str _)) h.2.2⟩
def rStr (g : Str → Str → Bool) : V → V → Hp → VK → Prop := fun x y H Q => ∃ a b, x = .str a ∧ y = .str b ∧ Q (.bl (g a b)) H
theorem op_neS : OpR X (compareOp .NotEq) (rStr fun a b => a.cps.toList != b.cps.toList) := by
  intro pins s σ H x y v u Q I rx ry h
  obtain ⟨a, b, rfl, rfl, q⟩ := h
  obtain ⟨t, rfl⟩ := rx
  obtain ⟨t2, rfl⟩ := ry
  exact PySem.P.ne_str ⟨.bl _, H, I, rfl, q⟩
def qNeS : R2D := fun x y st Q => match x, y with
  | .d (.str a), .d (.str b) => Q (.d (.bool (a.cps.toList != b.cps.toList))) st
  | _, _ => False
theorem op_qNeS : ∃ r', OpR X (compareOp .NotEq) r' ∧ S2 X.K r' qNeS :=
  ⟨_, op_neS, fun F H st v w x y Qd Q R rv rw' h kk => by
    unfold qNeS at h
    split at h
    · cases rv_str rv; cases rv_str rw'
      exact ⟨_, _, rfl, rfl, kk.at R (.d (.bl _)) h⟩
    · exact h.elim⟩
end
end DL
end
section
set_option Elab.async false
set_option linter.all false
set_option maxRecDepth 100000
set_option maxHeartbeats 2000000
namespace L2
open PySem PySem.Spec PyProof.Rows
section
variable {X : Cx} {CX : CXT} {k j : Nat} {f : Addr} {fd : FuncData} {ps : List Str} {sp : Sp} {x : Str} {p pos : Pos} {e : Expr} {es : List Expr} {t : TA}
theorem FnG.mono {P : Program} {w : World} {K : PySem.W.Frag} {mg : Str → Option Value} {base : Heap} (F : FnG P w K mg base j f fd ps sp) (h : j ≤ k) : FnG P w K mg base k f fd ps sp :=
  ⟨F.lenG, fun A outer s H args us vs Q E hg hr => F.runG A outer s H args us vs Q E hg (hr.mono h)⟩
end
end L2
namespace DL
open PySem PySem.Spec L2 PyProof.Rows
section
variable {P : Program} {w : World} {K : PySem.W.Frag} {mg : Str → Option Value} {base : Heap} {X : Cx} {N : List Str} {sc fs : Scope} {k : Nat}
def rngDn (hi : Int) (n : Nat) : List DV := (List.range n).map fun (i : Nat) => .d (.int (hi - (i : Int)))
def qiRng3 (ta : TDa) : TDi := fun ε st Q => ta ε st fun vs s1 => match vs with
  | [.d (.int i), .d (.int j), .d (.int c)] => c = -1 ∧ (-(2 ^ 62) ≤ i ∧ i < 2 ^ 62 ∧ -(2 ^ 62) ≤ j ∧ j < 2 ^ 62) ∧ Q (rngDn i (i - j).toNat) (fun _ => True) s1
  | _ => False
theorem rngDn_src {F0 : Hp} (hi : Int) (n : Nat) : Src K F0 (Itc hi (-1) n) (rngDn hi n) (fun _ => True) := fun F H st e R iv => by
  unfold rngDn
  refine ⟨fun i x hx => ?_, by simp [Itc]⟩
  rw [List.getElem?_map] at hx
  by_cases hlt : i < n
  · rw [List.getElem?_range hlt] at hx
    cases hx
    refine ⟨hlt, fun v H' ⟨e1, e2⟩ => ?_⟩
    subst e1 e2
    rw [show hi + (i : Int) * -1 = hi - (i : Int) by omega]
    exact ⟨F, Step.refl _ _ _, R, .d (.int _)⟩
  · rw [List.getElem?_eq_none (by rw [List.length_range]; omega)] at hx
    cases hx
theorem di_rng3 {tg a b d : Expr} {ta : TDa} {p pos : Pos} (c : Cok P w K mg base X N sc fs k) (hg : glB sc "range" = true) (hm : mg "range" = none) (h : DA X [a, b, d] ta)
    (hs : starEach [a, b, d] X.env = (false, eval a X.env) :: starEach [b, d] X.env := by rfl) (hpl : (backTo pos (starEach [b, d] X.env)).any (·.1) = false := by rfl) : DI X tg (.Call (.Name "range" p) [a, b, d] [] pos) (qiRng3 ta) := by
  obtain ⟨t1, p1, a1⟩ := h
  refine ⟨⟨_, pi_range3 (gl_of c hg).1 (by rw [c.hmg]; exact hm) p1 hs hpl, fun F σ H ε st Qd R' R E h kk => ?_⟩⟩
  refine a1 F σ H ε st _ _ R E h fun F1 vs H1 xs s1 t1 R1 r q => ?_
  split at q
  · cases r with
    | cons r rr =>
      cases rr with
      | cons r2 rr =>
        cases rr with
        | cons r3 rr =>
          cases rr
          cases rv_int r
          cases rv_int r2
          cases rv_int r3
          obtain ⟨rfl, ⟨h1, h2, h3, h4⟩, q⟩ := q
          exact ⟨_, _, _, _, rfl, RgC.neg h1 h2 h3 h4, kk F1 _ H1 _ _ s1 t1 R1 (rngDn_src _ _) q⟩
  · exact q.elim
end
end DL
end
section
set_option Elab.async false
set_option linter.all false
set_option maxRecDepth 100000
set_option maxHeartbeats 2000000
namespace L2
open PySem PySem.Spec PyProof.Rows
section
variable {prog : Program} {w : World} {A : Around} {E : Value → Shared → Prop} {s : Shared}
theorem collect_tup {l : Addr} {vs : List Value} {o : Obj} {n : Nat} {Q : List Value → Shared → Prop} (ho : s.heap.get? l = some o) (hc : o.cls = .type "tuple") (hd : o.data = .seq vs.toArray n)
    (h : ∀ h', (∀ b u, s.heap.get? b = some u → h'.get? b = some u) → s.heap.objs.size ≤ h'.objs.size → Q vs { s with heap := h' }) (hsz : vs.length ≤ sizeLine) :
    wpAny (model prog w) A (collect (.ref l)) Q E s := by
  unfold collect
  refine wpAny_bind (wpAny_runValue (codeAny_builtin entry_proto_collect' ?_))
  show wpAny _ _ (do again (.builtin "list.__iadd__" ⟨[← newList [], .ref l], []⟩)) _ _ s
  refine wpAny_bind (wpAny_newList (wpAny_pure ⟨Code.quiet_builtin _ (by decide +kernel), codeAny_builtin entry_list_iadd' ?_⟩))
  show wpAny _ _ (Builtin.List.listExtendWith (.ref s.heap.objs.size) (.ref l) (.ref s.heap.objs.size)) _ _ { s with heap := s.heap.push (seqObj "list" #[] 0) }
  unfold Builtin.List.listExtendWith
  have ho' : (s.heap.push (seqObj "list" #[] 0)).get? l = some o := Heap.get?_push_of_some _ ho
  refine wpAny_bind (wpAny_typeOf (T := "tuple") ⟨o, ho', hc⟩ ?_)
  have ht : (Value.type "tuple" == Value.type "tuple") = true := by rfl
  rw [if_pos (by rw [ht]; simp)]
  refine wpAny_bind (listItems_at ho' hd ?_)
  refine wpAny_bind (listItems_at (xs := #[]) (n := 0) (Heap.get?_push_size _ rfl) rfl ?_)
  rw [if_neg (by simp)]
  refine wpAny_bind (listUpdate_at (xs := #[]) (n := 0) (Heap.get?_push_size _ rfl) rfl ?_ (Nat.zero_le _) (by show (#[] ++ vs.toArray).size ≤ sizeLine + 1; simp only [Array.size_append, List.size_toArray, List.length_nil]; omega))
  refine wpAny_pure ?_
  show wpAny (model prog w) A (do
      let o ← load s.heap.objs.size
      match o.data with
      | .seq xs _ => pure xs.toList
      | _ => unsupported "internal:collect") Q E { s with heap := (s.heap.push (seqObj "list" #[] 0)).update s.heap.objs.size (Obj.mapSeq (· ++ vs.toArray)) }
  refine wpAny_bind (wpAny_load (get?_update_seq (Heap.get?_push_size _ rfl) _) ?_)
  show wpAny _ _ (pure ((#[] : Array Value) ++ vs.toArray).toList) Q E _
  rw [show ((#[] : Array Value) ++ vs.toArray).toList = vs by simp]
  refine wpAny_pure (h _ (fun b u hb => ?_) ?_)
  · exact (Heap.get?_update_other _ _ (Nat.ne_of_gt (Heap.lt_size hb))).trans (Heap.get?_push_of_some _ hb)
  · rw [Heap.size_update, size_push']
    exact Nat.le_succ _
theorem sorted_tupI {l : Addr} {vs : List Value} {ns : List Int} {Q : Value → Shared → Prop} (hl : s.heap.IsTuple l vs.toArray) (hI : IntsAre vs ns) (h64 : vs.length < 64)
    (hQ : ∀ (h' : Heap) (p : Addr) (out : Array Value) (c : Nat) (ns' : List Int), (∀ b o, s.heap.get? b = some o → h'.get? b = some o) → s.heap.objs.size ≤ p →
      h'.get? p = some (seqObj "list" out c) → IntsAre out.toList ns' → ns'.Perm ns → ns'.Pairwise (· ≤ ·) → Q (.ref p) { s with heap := h' }) :
    wpAny (model prog w) A (call (.builtin "sorted") [.ref l]) Q E s := by
  obtain ⟨o, ho, hc, n, hd⟩ := hl
  refine Calls.call_function_entry kind_sorted plain_sorted entry_sorted (args_sorted1 _) ?_
  unfold Builtin.«sorted»
  refine wpAny_bind (m := checkCount "sorted" 1 1 _) (wpAny_pure ?_)
  refine wpAny_bind (collect_tup ho hc hd (fun h1 k1 hle => ?_) (by rw [sizeLine_eq]; omega))
  refine wpAny_bind (wpAny_newList ?_ (by rw [sizeLine_eq]; omega))
  have hoL : (h1.push (seqObj "list" vs.toArray 0)).get? h1.objs.size = some (seqObj "list" vs.toArray 0) := Heap.get?_push_size _ rfl
  refine wpAny_bind (wpAny_holding (wpAny_call_entry slot_list_sort ⟨_, hoL, rfl⟩ entry_list_sort (list_sort_tree hoL hI h64 fun out ns' a1 a2 a3 => ⟨_, rfl, ?_⟩) (args_list_sort _)))
  obtain ⟨c, hc2⟩ := sortedHeap_at (vs := vs) (out := out) hoL
  refine wpAny_pure ⟨_, rfl, hQ _ h1.objs.size out c ns' (fun b u e => ?_) hle hc2 a1 a2 a3⟩
  have q := k1 b u e
  have hlt := Heap.lt_size q
  rw [sortedHeap_old (Nat.ne_of_lt hlt) (by rw [size_push']; exact Nat.lt_succ_of_lt hlt)]
  exact Heap.get?_push_of_some _ q
end
/-- sorted(t), t a tuple of ints -/
def rSortTI (K : PySem.W.Frag) : List V → Hp → VK → Prop := fun vs H Q => ∃ (a : Addr) (ns : List Int), vs = [V.ref a] ∧ SqT K H a (ns.map V.int) ∧ ns.length < 60 ∧
  ∀ (ns' : List Int) (p : Addr), ns'.Perm ns → ns'.Pairwise (· ≤ ·) → H p = none → Q (.ref p) (upd H p (.lst (ns'.map V.int)))
theorem cr_sortTI {X : Cx} : CallR X (.builtin "sorted") (rSortTI X.K) := by
  intro pins s σ H vs us Q I r h
  obtain ⟨a, ns, rfl, hs, hl, q⟩ := h
  obtain ⟨its, rv, pt, hz⟩ := I.tuple hs
  rw [Vals.ref1 r]
  have hi := ints_of_vals rv
  have hlv : its.length = ns.length := by rw [← rv.length, List.length_map]
  refine sorted_tupI (show s.heap.IsTuple a its.toArray from pt) (by simpa using hi) (by omega) fun h' p out c ns' k hp hg hi2 pm pw => ?_
  have hlen : (ns'.map V.int).length ≤ sizeLine := by rw [List.length_map, pm.length_eq, sizeLine_eq]; omega
  exact ⟨.ref p, upd H p (.lst (ns'.map V.int)), I.laid (t' := s.toks) k hp ⟨hlen, out.toList, c, vals_of_ints hi2, hg⟩, rfl, q ns' p pm pw (I.hok.fresh hp)⟩
end L2
namespace DL
open PySem PySem.Spec L2 PyProof.Rows
def insI (x : Int) : List Int → List Int
  | [] => [x]
  | y :: l => if x < y then x :: y :: l else if x = y then y :: l else y :: insI x l
def sortIU : List Int → List Int
  | [] => []
  | x :: l => insI x (sortIU l)
theorem mem_insI {x y : Int} : ∀ {l : List Int}, y ∈ insI x l ↔ y = x ∨ y ∈ l
  | [] => by simp [insI]
  | z :: l => by
    rw [insI]
    split
    · simp
    · split
      · rename_i h
        subst h
        simp
      · rw [List.mem_cons, mem_insI (l := l), List.mem_cons]
        exact ⟨fun h => h.elim (fun h => .inr (.inl h)) fun h => h.elim .inl fun h => .inr (.inr h), fun h => h.elim (fun h => .inr (.inl h)) fun h => h.elim .inl fun h => .inr (.inr h)⟩
theorem mem_sortIU {y : Int} : ∀ {l : List Int}, y ∈ sortIU l ↔ y ∈ l
  | [] => by simp [sortIU]
  | x :: l => by rw [sortIU, mem_insI, mem_sortIU (l := l), List.mem_cons]
theorem asc_insI {x : Int} : ∀ {l : List Int}, l.Pairwise (· < ·) → (insI x l).Pairwise (· < ·)
  | [], _ => List.pairwise_singleton _ _
  | z :: l, h => by
    obtain ⟨h1, h2⟩ := List.pairwise_cons.mp h
    rw [insI]
    split
    · rename_i c
      exact List.pairwise_cons.mpr ⟨fun y hy => (List.mem_cons.mp hy).elim (fun e => e ▸ c) fun hy => Int.lt_trans c (h1 y hy), h⟩
    · split
      · exact h
      · refine List.pairwise_cons.mpr ⟨fun y hy => ?_, asc_insI h2⟩
        rcases mem_insI.mp hy with rfl | hy
        · omega
        · exact h1 y hy
theorem asc_sortIU : ∀ l : List Int, (sortIU l).Pairwise (· < ·)
  | [] => List.Pairwise.nil
  | x :: l => asc_insI (asc_sortIU l)
theorem asc_ext : ∀ {a b : List Int}, a.Pairwise (· < ·) → b.Pairwise (· < ·) → (∀ x, x ∈ a ↔ x ∈ b) → a = b
  | [], [], _, _, _ => rfl
  | [], y :: b, _, _, h => absurd ((h y).mpr List.mem_cons_self) List.not_mem_nil
  | x :: a, [], _, _, h => absurd ((h x).mp List.mem_cons_self) List.not_mem_nil
  | x :: a, y :: b, ha, hb, h => by
    obtain ⟨a1, a2⟩ := List.pairwise_cons.mp ha
    obtain ⟨b1, b2⟩ := List.pairwise_cons.mp hb
    have e : x = y := by
      rcases List.mem_cons.mp ((h x).mp List.mem_cons_self) with q | q
      · exact q
      · rcases List.mem_cons.mp ((h y).mpr List.mem_cons_self) with r | r
        · exact r.symm
        · have := b1 x q
          have := a1 y r
          omega
    subst e
    congr 1
    refine asc_ext a2 b2 fun z => ⟨fun hz => ?_, fun hz => ?_⟩
    · rcases List.mem_cons.mp ((h z).mp (List.mem_cons_of_mem _ hz)) with q | q
      · have := a1 z hz
        omega
      · exact q
    · rcases List.mem_cons.mp ((h z).mpr (List.mem_cons_of_mem _ hz)) with q | q
      · have := b1 z hz
        omega
      · exact q
section
variable {P : Program} {w : World} {K : PySem.W.Frag} {mg : Str → Option Value} {base : Heap} {X : Cx} {N : List Str} {sc fs : Scope} {k : Nat}
theorem rvs_ints {F : Hp} : ∀ ns : List Int, RVs K F (ns.map V.int) (ns.map fun i => .d (.int i))
  | [] => .nil
  | i :: ns => .cons (.d (.int i)) (rvs_ints ns)
def qSortTI (m : Bool) (te : TD) : TD := fun ε st Q => te ε st fun x s1 => match titems x with
  | some l => (match dints l with
    | some ns => ns.length < 60 ∧ newL m ((ns.mergeSort fun a b => decide (a ≤ b)).map fun i => .d (.int i)) s1 Q
    | none => False)
  | none => False
theorem de_sortTI {e : Expr} {te : TD} {p pos : Pos} (m : Bool) (c : Cok P w K mg base X N sc fs k) (hg : glB sc "sorted" = true) (hm : mg "sorted" = none) (ha : DE X e te)
    (he : starEach [e] X.env = (false, eval e X.env) :: starEach [] X.env := by rfl) : DE X (.Call (.Name "sorted" p) [e] [] pos) (qSortTI m te) := by
  obtain ⟨t1, p1, a1⟩ := ha
  have g := gl_of c hg
  refine ⟨⟨_, pe_callB cr_sortTI g.1 (by rw [c.hmg]; exact hm) bb_sorted (pa_cons p1 pa_nil he) g.2.1 g.2.2 he rfl, fun F σ H ε st Qd Q R E h kk => ?_⟩⟩
  refine a1.go (W := fun x H1 => _) R E h kk fun F1 H1 s1 v y R1 E1 rv q kk => ?_
  split at q
  rotate_left
  · exact q.elim
  rename_i l el
  split at q
  rotate_left
  · exact q.elim
  rename_i ns en
  obtain ⟨hl, q⟩ := q
  obtain ⟨pa, vs, rfl, hF, s⟩ := titems_rv rv el
  obtain ⟨rfl, rfl⟩ := dints_rvs s en
  refine ⟨pa, ns, rfl, SqT.of (R1.sub _ _ hF).1, hl, fun out pp pm pw hp => ?_⟩
  have e : out = ns.mergeSort fun a b => decide (a ≤ b) := by
    have hp2 : (ns.mergeSort fun a b => decide (a ≤ b)).Pairwise (fun a b => decide (a ≤ b) = true) := List.pairwise_mergeSort (fun a b c h1 h2 => by simp only [decide_eq_true_eq] at *; omega) (fun a b => by simp only [Bool.or_eq_true, decide_eq_true_eq]; omega) ns
    have pm2 : out.Perm (ns.mergeSort fun a b => decide (a ≤ b)) := pm.trans (List.mergeSort_perm _ _).symm
    exact pm2.eq_of_pairwise (le := fun a b => decide (a ≤ b)) (fun a b _ _ h1 h2 => by simp only [decide_eq_true_eq] at *; omega) (List.Pairwise.imp (fun h => by simpa using h) pw) hp2
  rw [e]
  exact new_lst R1 (rvs_ints _) hp q kk
end
end DL
end
section
set_option linter.all false
set_option maxRecDepth 100000
set_option maxHeartbeats 1000000
namespace UC
open PySem L2 DL RD
abbrev Asc (a : List Int) : Prop := a.Pairwise (· < ·)
theorem asc_sub : ∀ {b a : List Int}, Asc a → Asc b → (∀ x ∈ a, x ∈ b) → a.Sublist b
  | [], a, _, _, h => by
    cases a with
    | nil => exact List.Sublist.refl _
    | cons x a => exact absurd (h x List.mem_cons_self) List.not_mem_nil
  | y :: b, [], _, _, _ => List.nil_sublist _
  | y :: b, x :: a, ha, hb, h => by
    obtain ⟨a1, a2⟩ := List.pairwise_cons.mp ha
    obtain ⟨b1, b2⟩ := List.pairwise_cons.mp hb
    by_cases e : x = y
    · subst e
      refine List.Sublist.cons₂ _ (asc_sub a2 b2 fun z hz => ?_)
      rcases List.mem_cons.mp (h z (List.mem_cons_of_mem _ hz)) with q | q
      · have := a1 z hz
        omega
      · exact q
    · have hx : x ∈ b := (List.mem_cons.mp (h x List.mem_cons_self)).resolve_left e
      have hyx := b1 x hx
      refine List.Sublist.cons _ (asc_sub ha b2 fun z hz => ?_)
      rcases List.mem_cons.mp (h z hz) with q | q
      · rcases List.mem_cons.mp hz with r | r
        · omega
        · have := a1 z r
          omega
      · exact q
/-- no set of numbers below v is longer -/
theorem asc_long {v : Nat} {a : List Int} (ha : Asc a) (hl : ∀ x ∈ a, 0 ≤ x ∧ x < v) : a.length ≤ v := by
  have hb : Asc (rangeI v) := by
    show List.Pairwise (· < ·) ((List.range v).map fun (k : Nat) => (k : Int))
    rw [List.pairwise_map]
    exact List.Pairwise.imp (fun h => by omega) List.pairwise_lt_range
  have := (asc_sub ha hb fun x hx => by
    have := hl x hx
    unfold rangeI
    exact List.mem_map.mpr ⟨x.toNat, List.mem_range.mpr (by omega), by omega⟩).length_le
  simpa [rangeI] using this
end UC
end
section
set_option linter.all false
set_option maxRecDepth 100000
set_option maxHeartbeats 1000000
namespace UC
open PySem L2 DL RD
abbrev Tab := List (List Int × Int)
def evT (f : List Int → Int) : Tab → Int
  | [] => 0
  | p :: T => p.2 * f p.1 + evT f T
theorem ev_cong {f g : List Int → Int} : ∀ {T : Tab}, (∀ p ∈ T, f p.1 = g p.1) → evT f T = evT g T
  | [], _ => rfl
  | p :: T, h => by
    rw [evT, evT, h p List.mem_cons_self, ev_cong (T := T) fun q hq => h q (List.mem_cons_of_mem _ hq)]
theorem ev_zero : ∀ T : Tab, evT (fun _ => 0) T = 0
  | [] => rfl
  | p :: T => by rw [evT, ev_zero T, Int.mul_zero]; rfl
abbrev keysZ (T : Tab) : List (List Int) := T.map (·.1)
def chi (b a : List Int) : Int := if divB a b = true then 1 else 0
structure Canon (n : Nat) (P : Tab) : Prop where
  ris : RisL (keysZ P)
  nn : ∀ p ∈ P, NN n p.1
  nz : ∀ p ∈ P, p.2 ≠ 0
theorem chi_above {n : Nat} {a b : List Int} (ha : a.length = n) (hb : b.length = n) (h : lexL a b = true) : chi a b = 0 := by
  refine if_neg fun z => ?_
  rcases divB_lex (hb.trans ha.symm) z with e | e
  · rw [e, lexL_irr] at h; cases h
  · have := lexL_tr e h; rw [lexL_irr] at this; cases this
theorem ev_above {n : Nat} {a : List Int} (ha : a.length = n) {P : Tab} (hP : ∀ p ∈ P, NN n p.1 ∧ lexL a p.1 = true) : evT (chi a) P = 0 := by
  rw [ev_cong (g := fun _ => 0) fun p hp => chi_above ha (hP p hp).1.1 (hP p hp).2, ev_zero]
theorem Canon.below {n : Nat} {a : List Int} (ha : NN n a) {p : List Int × Int} {P : Tab} (h : Canon n (p :: P)) (hl : lexL a p.1 = true) : evT (chi a) (p :: P) = 0 := by
  refine ev_above ha.1 fun q hq => ⟨h.nn q hq, ?_⟩
  rcases List.mem_cons.mp hq with rfl | hq
  · exact hl
  · exact lexL_tr hl ((List.pairwise_cons.mp h.ris).1 _ (List.mem_map.mpr ⟨q, hq, rfl⟩))
end UC
end
section
set_option linter.all false
set_option maxRecDepth 100000
set_option maxHeartbeats 1000000
namespace UC
open PySem L2 DL RD
end UC
end
section
set_option linter.all false
set_option maxRecDepth 100000
set_option maxHeartbeats 1000000
namespace UC
open PySem L2 DL RD
def pairP (p : List Int × Int) : PyData := .tuple [TI p.1, .int p.2]
abbrev PT (P : Tab) : PyData := .tuple (P.map pairP)
def putK (S : List (Int × Int)) (a v : Int) : List (Int × Int) := if (S.any fun p => decide (p.1 = a)) = true then S.map fun p => if p.1 = a then (p.1, v) else p else S ++ [(a, v)]
end UC
end
section
set_option linter.all false
set_option maxRecDepth 100000
set_option maxHeartbeats 1000000
namespace UC
open PySem L2 DL RD
def bs (f : List Int → Int) : List Int → Int
  | [] => 0
  | x :: a => f a - bs (fun b => f (x :: b)) a
abbrev Fc (a : List Int) : Prop := a.length ≤ 7 ∧ ∀ x ∈ a, 0 ≤ x ∧ x ≤ 6
end UC
end
section
set_option linter.all false
set_option maxRecDepth 100000
set_option maxHeartbeats 1000000
namespace UC
open PySem L2 DL RD
abbrev Low (v : Nat) (a : List Int) : Prop := ∀ x ∈ a, 0 ≤ x ∧ x < (v : Int)
theorem mem_rngV {v : Nat} {x : Int} : x ∈ rangeI v ↔ 0 ≤ x ∧ x < (v : Int) := by
  unfold rangeI
  rw [List.mem_map]
  constructor
  · rintro ⟨j, hj, rfl⟩
    rw [List.mem_range] at hj
    omega
  · intro h
    exact ⟨x.toNat, List.mem_range.mpr (by omega), by omega⟩
theorem asc_rngV (v : Nat) : Asc (rangeI v) := by
  show List.Pairwise (· < ·) ((List.range v).map fun (k : Nat) => (k : Int))
  rw [List.pairwise_map]
  exact List.Pairwise.imp (fun h => by omega) List.pairwise_lt_range
end UC
end
section
set_option Elab.async false
set_option linter.all false
set_option maxRecDepth 100000
set_option maxHeartbeats 4000000
namespace CpComb
open PySem PySem.Spec
open Sem (wp)
theorem mro_cmb : mroOf (.type "itertools.combinations") = pure [.type "itertools.combinations", .type "object"] := by rw [mroOf_type]; kernel_rfl
theorem lookup_cmb_new : typeLookup (.type "itertools.combinations") "__new__" = pure (some (.builtin "itertools.combinations.__new__")) := by rw [typeLookup_type, builtinLookup_eq_fast]; kernel_rfl
theorem slot_cmb_init : Slot "itertools.combinations" "__init__" "object.__init__" :=
  .of (owner := "object") (n := "__init__") (by rw [typeLookup_type, builtinLookup_eq_fast]; kernel_rfl) (by decide +kernel) (by decide +kernel) (by decide +kernel)
    (by first | exact .inl (by decide +kernel) | exact .inr (by decide +kernel)) (by rw [isSubtype_type]; kernel_rfl)
theorem sub_cmb : isSubtype (.type "itertools.combinations") (.type "itertools.combinations") = pure true := by rw [isSubtype_type]; kernel_rfl
theorem called_cmb : TypeCalled "itertools.combinations" "itertools.combinations.__new__" "object.__init__" :=
  ⟨by decide +kernel, by decide +kernel, ⟨_, _, mro_cmb⟩, madeBy_type mro_cmb lookup_cmb_new (by decide +kernel), by decide +kernel, sub_cmb, slot_cmb_init⟩
theorem typeCall_cmb_2 (a b : Value) : checkTypeCall "itertools.combinations" ⟨[a, b], []⟩ = pure () := by kernel_rfl
theorem newCall_cmb_2 (a b : Value) : checkBuiltinCall "itertools.combinations.__new__" ⟨[.type "itertools.combinations", a, b], []⟩ = pure () := by kernel_rfl
theorem entry_cmb_new : entryFor table "itertools.combinations.__new__" = some Builtin.«itertools.combinations.__new__» := entryFor_of_tree (by kernel_rfl)
theorem slot_cmb_iter : Slot "itertools.combinations" "__iter__" "itertools.combinations.__iter__" :=
  .of (owner := "itertools.combinations") (n := "__iter__") (by rw [typeLookup_type, builtinLookup_eq_fast]; kernel_rfl) (by decide +kernel) (by decide +kernel) (by decide +kernel)
    (by first | exact .inl (by decide +kernel) | exact .inr (by decide +kernel)) sub_cmb
theorem slot_cmb_next : Slot "itertools.combinations" "__next__" "itertools.combinations.__next__" :=
  .of (owner := "itertools.combinations") (n := "__next__") (by rw [typeLookup_type, builtinLookup_eq_fast]; kernel_rfl) (by decide +kernel) (by decide +kernel) (by decide +kernel)
    (by first | exact .inl (by decide +kernel) | exact .inr (by decide +kernel)) sub_cmb
theorem entry_cmb_iter : entryFor table "itertools.combinations.__iter__" = some Builtin.«dict_keyiterator.__iter__» :=
  entryFor_alias (id' := "dict_keyiterator.__iter__") (by kernel_rfl) (by first | rfl | decide +kernel | (unfold String.splitOn; simp +decide [String.splitOnAux])) (by decide +kernel) (by kernel_rfl)
theorem entry_cmb_next : entryFor table "itertools.combinations.__next__" = some Builtin.«itertools.combinations.__next__» := entryFor_of_tree (by kernel_rfl)
theorem owner_cmb : Manifest.owners.lookup (String.ofList ['s', 'n', 'o', 'i', 't', 'a', 'n', 'i', 'b', 'm', 'o', 'c', '.', 's', 'l', 'o', 'o', 't', 'r', 'e', 't', 'i'].reverse) = some Manifest.sig_itertools_combinations := by kernel_rfl
theorem args_cmb_iter (a : Value) : argsOk "itertools.combinations.__iter__" ⟨[a], []⟩ := by
  unfold argsOk; rw [signature?_of (id := "itertools.combinations.__iter__") (n := ['_', '_', 'r', 'e', 't', 'i', '_', '_']) (o := ['s', 'n', 'o', 'i', 't', 'a', 'n', 'i', 'b', 'm', 'o', 'c', '.', 's', 'l', 'o', 'o', 't', 'r', 'e', 't', 'i']) (by kernel_rfl) owner_cmb]; kernel_rfl
theorem args_cmb_next (a : Value) : argsOk "itertools.combinations.__next__" ⟨[a], []⟩ := by
  unfold argsOk; rw [signature?_of (id := "itertools.combinations.__next__") (n := ['_', '_', 't', 'x', 'e', 'n', '_', '_']) (o := ['s', 'n', 'o', 'i', 't', 'a', 'n', 'i', 'b', 'm', 'o', 'c', '.', 's', 'l', 'o', 'o', 't', 'r', 'e', 't', 'i']) (by kernel_rfl) owner_cmb]; kernel_rfl
theorem noDict_cmb : typeHasDict (.type "itertools.combinations") = false := by decide +kernel
/-- a combinations object: its pool, how far it is, what it gave last, its places -/
abbrev cmbObj (P : Value) (st : Int) (last : Value) (idx : List Nat) : Obj := { cls := .type "itertools.combinations", dict := none, data := .fields ([P, .int st 0, last] ++ idx.map fun (i : Nat) => Value.int (i : Int) 0).toArray, slots := #[] }
theorem meets_cmb_new (it : Value) (i : Int) (t : Tok) (h0 : 0 ≤ i) (hr : i ≤ 1000) :
    Meets (Builtin.«itertools.combinations.__new__» ⟨[.type "itertools.combinations", it, .int i t], []⟩)
      (fun A R s => ∀ (prog : Program) (w : World), wpAny (model prog w) A.in1 (collect it) (fun vs s1 => vs.length ≤ 1000 ∧ R (.ok (.ret (.ref (s1.heap.objs.size + 1)))) { s1 with heap := (s1.heap.push { cls := .type "tuple", data := .seq vs.toArray }).push (cmbObj (.ref s1.heap.objs.size) (if i.toNat > vs.length then 2 else 0) .none (List.range i.toNat)) })
        (fun e s' => R (.error e) s') s) :=
  fun prog w A R s h => by
    have hw := h prog w
    obtain ⟨hp, g, dd, tk, os⟩ := s
    have hsub := sub_cmb
    have hd := noDict_cmb
    have es : ("itertools." ++ "combinations" : String) = "itertools.combinations" := by decide +kernel
    have hn : ¬ ((!(decide (-(2 ^ 63 : Int) ≤ i) && decide (i < (2 ^ 63 : Int)))) = true) := by
      have a : decide (-(2 ^ 63 : Int) ≤ i) = true := decide_eq_true (by omega)
      have b : decide (i < (2 ^ 63 : Int)) = true := decide_eq_true (by omega)
      rw [a, b]
      decide
    iterate 84 (first
      | (fail_if_success (with_reducible refine wpAny_mono hw (fun _ _ _ => ?_) (fun _ _ he => he))
         first
         | simp only [es]
         | wp_step
         | simp only [List.head?_cons, Option.some_or, List.getElem?_cons_succ, List.getElem?_cons_zero, List.length_cons, List.length_nil, List.forIn_nil]
         | (refine wpAny_ite_false (decide_eq_false hn) ?_))
      | skip)
    have hn2 : ¬ ((decide (i < -2 ^ 63) || decide (i ≥ 2 ^ 63)) = true) := by
      have a : decide (i < -2 ^ 63) = false := decide_eq_false (by omega)
      have b : decide (i ≥ 2 ^ 63) = false := decide_eq_false (by omega)
      rw [a, b]
      decide
    rw [if_neg hn2]
    refine wpAny_pure ?_
    refine wpAny_bind (wpAny_mono hw (fun vs s1 hv => ?_) fun e s' he => he)
    obtain ⟨hl, hv⟩ := hv
    rw [if_neg (show ¬ i < 0 by omega), if_neg (by unfold Builtin.Itertools.itTooMany; simp; omega)]
    refine wpAny_bind ?_
    simp only [newTuple]
    refine wpAny_newObj_type ?_ (by show vs.toArray.size ≤ sizeLine; rw [List.size_toArray, sizeLine_eq]; omega)
    refine wpAny_pure ?_
    show wpAny _ _ (Builtin.Itertools.itNewRecord (.type "itertools.combinations") _ >>= _) _ _ _
    refine wpAny_bind ?_
    unfold Builtin.Itertools.itNewRecord
    rw [hd, if_pos (by rfl)]
    have hf : (([Value.ref s1.heap.objs.size, rawInt (if i.toNat > vs.length then 2 else 0), Value.none] ++ (List.range i.toNat).map fun (i : Nat) => rawInt (i : Int))).length ≤ 1003 := by
      simp only [List.length_append, List.length_map, List.length_range, List.length_cons, List.length_nil]
      omega
    refine wpAny_newObj_type ?_ (by show (List.toArray _).size ≤ sizeLine + 2; rw [List.size_toArray, sizeLine_eq]; exact Nat.le_trans hf (by decide))
    refine wpAny_pure ?_
    have e1 : (s1.heap.push { cls := .type "tuple", data := .seq vs.toArray }).objs.size = s1.heap.objs.size + 1 := by first | exact PyProof.Rows.size_push' .. | simp [Heap.push]

    show R (.ok (.ret (.ref (s1.heap.push { cls := .type "tuple", data := .seq vs.toArray }).objs.size))) _
    rw [e1]
    exact hv
end CpComb
end
section
set_option Elab.async false
set_option linter.all false
set_option maxRecDepth 100000
set_option maxHeartbeats 4000000
namespace CpComb
open PySem PySem.Spec CpRep
open Sem (wp)
/-- the next places -/
def nextC (n : Nat) (idx : List Nat) : Option (List Nat) :=
  match (List.range idx.length).reverse.find? fun i => idx.getD i 0 != i + n - idx.length with
  | none => none
  | some i => some (idx.take i ++ (List.range (idx.length - i)).map (idx.getD i 0 + 1 + ·))
abbrev IsCmb (h : Heap) (it : Addr) (P : Addr) (st : Int) (last : Value) (idx : List Nat) : Prop := h.get? it = some (cmbObj (.ref P) st last idx)
section
variable {prog : Program} {w : World} {A : Around} {E : Value → Shared → Prop} {s : Shared}
theorem iter_cmb {it P : Addr} {st : Int} {last : Value} {idx : List Nat} {Q : Value → Shared → Prop} (hit : IsCmb s.heap it P st last idx) (h : Q (.ref it) s) : wpAny (model prog w) A (pyIter (.ref it)) Q E s := by
  have hT : s.TypeIs (.ref it) "itertools.combinations" := ⟨_, hit, rfl⟩
  refine wpAny_pyIter_slot hT slot_cmb_iter (wpAny_call_entry slot_cmb_iter hT entry_cmb_iter ?_ (args_cmb_iter _))
  show wpAny _ _ (ret (.ref it)) _ _ s
  exact wpAny_pure ⟨_, rfl, "itertools.combinations", _, hT, slot_cmb_next.lookup, h⟩
abbrev cmbF (P : Value) (st : Int) (last : Value) (idx : List Nat) : Array Value := ([P, .int st 0, last] ++ idx.map fun (i : Nat) => Value.int (i : Int) 0).toArray
theorem set1 (P : Value) (st st' : Int) (last : Value) (idx : List Nat) : (cmbF P st last idx).setIfInBounds 1 (rawInt st') = cmbF P st' last idx := by
  simp [cmbF, rawInt]
theorem set2 (P : Value) (st : Int) (last last' : Value) (idx : List Nat) : (cmbF P st last idx).setIfInBounds 2 last' = cmbF P st last' idx := by
  simp [cmbF]
theorem size_cmbF (P : Value) (st : Int) (last : Value) (idx : List Nat) : (cmbF P st last idx).size = idx.length + 3 := by
  simp [cmbF]
theorem numbers {it P : Addr} {st : Int} {last : Value} {idx : List Nat} {Q : List Nat → Shared → Prop} (hit : IsCmb s.heap it P st last idx) (h : Q idx s) : wpAny (model prog w) A (Builtin.Itertools.itNumbersFrom (.ref it) 3) Q E s := by
  unfold Builtin.Itertools.itNumbersFrom
  show wpAny _ _ (load it >>= _) _ _ _
  refine wpAny_bind (wpAny_load hit ?_)
  refine wpAny_pure ?_
  have e : ((cmbF (.ref P) st last idx).toList.drop 3).map (fun | .int n _ => n.toNat | _ => 0) = idx := by
    simp only [cmbF, List.drop_succ_cons, List.cons_append, List.nil_append, List.drop_zero, List.map_map]
    conv => rhs; rw [← List.map_id idx]
    exact List.map_congr_left fun x _ => by simp
  show Q (((cmbF (.ref P) st last idx).toList.drop 3).map (fun | .int n _ => n.toNat | _ => 0)) s
  rw [e]
  exact h
theorem stField {it P : Addr} {st : Int} {last : Value} {idx : List Nat} {Q : Int → Shared → Prop} (hit : IsCmb s.heap it P st last idx) (h : Q st s) : wpAny (model prog w) A (Builtin.Itertools.itIntField (.ref it) 1) Q E s := by
  unfold Builtin.Itertools.itIntField
  refine wpAny_bind (wpAny_field hit rfl (x := .int st 0) rfl ?_)
  exact wpAny_pure h
theorem poolItems {P : Addr} {oP : Obj} {items : Array Value} {n : Nat} {Q : Array Value → Shared → Prop} (hP : s.heap.get? P = some oP) (hd : oP.data = .seq items n) (h : Q items s) : wpAny (model prog w) A (Builtin.Itertools.itPoolItems (.ref P)) Q E s := by
  unfold Builtin.Itertools.itPoolItems
  refine wpAny_bind (wpAny_seqItems hP hd ?_)
  exact wpAny_pure h
/-- what is picked -/
def pickT (items : Array Value) (idx : List Nat) : List Value := idx.map fun i => items.getD i .none
/-- hand it out -/
theorem handOut {it P : Addr} {st : Int} {last : Value} {idx : List Nat} {ns : List Nat} {oP : Obj} {items : Array Value} {n : Nat} {Q : Fin → Shared → Prop} (hit : IsCmb s.heap it P st last ns) (hP : s.heap.get? P = some oP) (hd : oP.data = .seq items n) (hl : idx.length ≤ 1000)
    (hQ : ∀ h', IsCmb h' it P st (.ref s.heap.objs.size) ns → h'.get? s.heap.objs.size = some { cls := .type "tuple", data := .seq (pickT items idx).toArray } →
      (∀ b o, b ≠ it → s.heap.get? b = some o → h'.get? b = some o) → Q (.done (.ret (.ref s.heap.objs.size))) { s with heap := h' }) :
    wpAny (model prog w) A (do
      let result ← (do
        let items ← Builtin.Itertools.itPoolItems (.ref P)
        newTuple (idx.map fun i => items.getD i .none))
      let before ← field (.ref it) 2
      setField (.ref it) 2 result
      letGo [before] [result]
      ret result) Q E s := by
  have hlt : it < s.heap.objs.size := Heap.lt_size hit
  refine wpAny_bind (wpAny_bind (poolItems hP hd (wpAny_newTuple ?_ (by rw [List.length_map, sizeLine_eq]; omega))))
  have hit1 : IsCmb (s.heap.push { cls := .type "tuple", data := .seq (pickT items idx).toArray }) it P st last ns := Heap.get?_push_of_some _ hit
  refine wpAny_bind (wpAny_field hit1 rfl (x := last) rfl ?_)
  refine wpAny_bind (wpAny_setField_rec (vs := cmbF (.ref P) st last ns) hit1 (by rw [size_cmbF]; omega) fun h2 e2 sb => ?_)
  rw [set2] at e2
  refine wpAny_bind (wpAny_letGo (wpAny_pure ?_))
  refine hQ h2 e2 ?_ fun b o hb e => (sb.2 b hb).trans (Heap.get?_push_of_some _ e)
  exact (sb.2 _ (Nat.ne_of_gt hlt)).trans (Heap.get?_push_size _ rfl)
/-- out is handed the next one: a new tuple of these places -/
abbrev GaveC (it P : Addr) (items : Array Value) (idx : List Nat) (s : Shared) (h' : Heap) : Prop :=
  IsCmb h' it P 1 (.ref s.heap.objs.size) idx ∧ h'.get? s.heap.objs.size = some { cls := .type "tuple", data := .seq (pickT items idx).toArray } ∧ ∀ b o, b ≠ it → s.heap.get? b = some o → h'.get? b = some o
theorem next_first {it P : Addr} {last : Value} {idx : List Nat} {items : Array Value} {n : Nat} {oP : Obj} {Q : Option Value → Shared → Prop} (hit : IsCmb s.heap it P 0 last idx) (hP : s.heap.get? P = some oP) (hd : oP.data = .seq items n) (hne : P ≠ it) (hl : idx.length ≤ 1000)
    (hQ : ∀ h', GaveC it P items idx s h' → Q (some (.ref s.heap.objs.size)) { s with heap := h' }) :
    wpAny (model prog w) A (pyNext (.ref it)) Q E s := by
  have hT : s.TypeIs (.ref it) "itertools.combinations" := ⟨_, hit, rfl⟩
  unfold pyNext
  refine wpAny_bind (wpAny_attempt (wpAny_callSpecial?_slot (name := Str.ofString "__next__") hT slot_cmb_next (wpAny_call_entry slot_cmb_next hT entry_cmb_next ?_ (args_cmb_next _))))
  show wpAny _ _ (field (.ref it) 0 >>= _) _ _ s
  refine wpAny_bind (wpAny_field hit rfl (x := .ref P) rfl ?_)
  refine wpAny_bind (numbers hit ?_)
  refine wpAny_bind (stField hit ?_)
  refine wpAny_bind (wpAny_setField_rec (vs := cmbF (.ref P) 0 last idx) hit (by rw [size_cmbF]; omega) fun h1 e1 sb => ?_)
  rw [set1] at e1
  have hsz : h1.objs.size = s.heap.objs.size := sb.1
  refine handOut (s := { s with heap := h1 }) e1 ((sb.2 P hne).trans hP) hd hl fun h2 e2 t2 k2 => ⟨_, rfl, ?_⟩
  refine wpAny_pure ?_
  show Q (some (.ref h1.objs.size)) { s with heap := h2 }
  have e2 : IsCmb h2 it P 1 (.ref h1.objs.size) idx := e2
  have t2 : h2.get? h1.objs.size = some { cls := .type "tuple", data := .seq (pickT items idx).toArray } := t2
  rw [hsz] at e2 t2 ⊢
  exact hQ h2 ⟨e2, t2, fun b o hb e => k2 b o hb ((sb.2 b hb).trans e)⟩
theorem next_step {it P : Addr} {last : Value} {idx nx : List Nat} {items : Array Value} {n : Nat} {oP : Obj} {Q : Option Value → Shared → Prop} (hit : IsCmb s.heap it P 1 last idx) (hP : s.heap.get? P = some oP) (hd : oP.data = .seq items n) (hne : P ≠ it) (hnx : nextC items.size idx = some nx) (hl : nx.length ≤ 1000)
    (hQ : ∀ h', GaveC it P items nx s h' → Q (some (.ref s.heap.objs.size)) { s with heap := h' }) :
    wpAny (model prog w) A (pyNext (.ref it)) Q E s := by
  have hT : s.TypeIs (.ref it) "itertools.combinations" := ⟨_, hit, rfl⟩
  unfold pyNext
  refine wpAny_bind (wpAny_attempt (wpAny_callSpecial?_slot (name := Str.ofString "__next__") hT slot_cmb_next (wpAny_call_entry slot_cmb_next hT entry_cmb_next ?_ (args_cmb_next _))))
  show wpAny _ _ (field (.ref it) 0 >>= _) _ _ s
  refine wpAny_bind (wpAny_field hit rfl (x := .ref P) rfl ?_)
  refine wpAny_bind (numbers hit ?_)
  refine wpAny_bind (stField hit ?_)
  refine wpAny_bind (poolItems hP hd ?_)
  split
  rotate_left
  · rename_i hx
    have : nextC items.size idx = none := hx
    rw [hnx] at this
    cases this
  rename_i nx' hx
  have hx : nextC items.size idx = some nx' := hx
  rw [hnx] at hx
  cases hx
  refine wpAny_bind ?_
  unfold Builtin.Itertools.itSetNumbersFrom
  refine wpAny_updateFields hit rfl ?_ (by rw [Array.size_append, Array.size_extract]; simp only [List.size_toArray]; rw [List.length_map (as := nx), sizeLine_eq]; omega)
  have e1 : IsCmb (s.heap.update it (Obj.mapFields fun fs => fs.extract 0 3 ++ (nx.map fun (n : Nat) => rawInt n).toArray)) it P 1 last nx := by
    have q := Heap.get?_update_self (Obj.mapFields fun fs => fs.extract 0 3 ++ (nx.map fun (n : Nat) => rawInt (n : Int)).toArray) hit rfl
    refine q.trans ?_
    simp [Obj.mapFields, cmbObj, rawInt]
  have sb : Heap.SameBut it s.heap (s.heap.update it (Obj.mapFields fun fs => fs.extract 0 3 ++ (nx.map fun (n : Nat) => rawInt (n : Int)).toArray)) := Heap.SameBut.update ..
  generalize s.heap.update it (Obj.mapFields fun fs => fs.extract 0 3 ++ (nx.map fun (n : Nat) => rawInt (n : Int)).toArray) = h1 at e1 sb
  have hsz : h1.objs.size = s.heap.objs.size := sb.1
  refine handOut (s := { s with heap := h1 }) e1 ((sb.2 P hne).trans hP) hd hl fun h2 e2 t2 k2 => ⟨_, rfl, ?_⟩
  refine wpAny_pure ?_
  show Q (some (.ref h1.objs.size)) { s with heap := h2 }
  have e2 : IsCmb h2 it P 1 (.ref h1.objs.size) nx := e2
  have t2 : h2.get? h1.objs.size = some { cls := .type "tuple", data := .seq (pickT items nx).toArray } := t2
  rw [hsz] at e2 t2 ⊢
  exact hQ h2 ⟨e2, t2, fun b o hb e => k2 b o hb ((sb.2 b hb).trans e)⟩
theorem stopIt {α : Type} {Q : α → Shared → Prop} (hh : A.handled = none) (h : ∀ (a : Addr) (o : Obj) (h' : Heap), h'.get? a = some o → o.cls = .type "StopIteration" → (∀ b o, s.heap.get? b = some o → h'.get? b = some o) → E (.ref a) { s with heap := h' }) :
    wpAny (model prog w) A (Builtin.Itertools.itStop : Sem α) Q E s := by
  unfold Builtin.Itertools.itStop
  show wpAny _ _ (newExc (.type "StopIteration") [] >>= _) _ _ _
  refine wpAny_bind ?_
  simp only [newExc, newTuple]
  refine wpAny_bind (wpAny_newObj_type ?_ (by size_fits))
  refine wpAny_bind (m := firstArgMember _ _) (wpAny_of_eq (a := Value.none) (by first | rfl | (simp only [firstArgMember]; rfl)) ?_)
  refine wpAny_newObj_type ?_ (by size_fits)
  simp only [raiseNew]
  refine wpAny_bind (wpAny_handled ?_)
  rw [hh]
  refine wpAny_bind (wpAny_pure (wpAny_throw ?_))
  exact h _ _ _ (Heap.get?_push_size _ rfl) rfl fun b o e => Heap.get?_push_of_some _ (Heap.get?_push_of_some _ e)
theorem next_over {it P : Addr} {last : Value} {idx : List Nat} {Q : Option Value → Shared → Prop} (hh : A.handled = none) (hit : IsCmb s.heap it P 2 last idx)
    (hQ : ∀ h', Heap.ExtBut it s.heap h' → Q none { s with heap := h' }) : wpAny (model prog w) A (pyNext (.ref it)) Q E s := by
  have hT : s.TypeIs (.ref it) "itertools.combinations" := ⟨_, hit, rfl⟩
  unfold pyNext
  refine wpAny_bind (wpAny_attempt (wpAny_callSpecial?_slot (name := Str.ofString "__next__") hT slot_cmb_next (wpAny_call_entry slot_cmb_next hT entry_cmb_next ?_ (args_cmb_next _))))
  show wpAny _ _ (field (.ref it) 0 >>= _) _ _ s
  refine wpAny_bind (wpAny_field hit rfl (x := .ref P) rfl ?_)
  refine wpAny_bind (numbers hit ?_)
  refine wpAny_bind (stField hit ?_)
  refine wpAny_bind (wpAny_rule ?_)
  refine stopIt (A := A.in1) hh fun a o h' e1 e2 k => ?_
  refine wpAny_bind (wpAny_isInstance (T := "StopIteration") (b := true) ⟨_, e1, e2⟩ isSubtype_stop ?_)
  exact wpAny_pure (hQ _ fun b o _ e => k b o e)
theorem next_end {it P : Addr} {last : Value} {idx : List Nat} {items : Array Value} {n : Nat} {oP : Obj} {Q : Option Value → Shared → Prop} (hh : A.handled = none) (hit : IsCmb s.heap it P 1 last idx) (hP : s.heap.get? P = some oP) (hd : oP.data = .seq items n) (hnx : nextC items.size idx = none)
    (hQ : ∀ h', Heap.ExtBut it s.heap h' → Q none { s with heap := h' }) : wpAny (model prog w) A (pyNext (.ref it)) Q E s := by
  have hT : s.TypeIs (.ref it) "itertools.combinations" := ⟨_, hit, rfl⟩
  unfold pyNext
  refine wpAny_bind (wpAny_attempt (wpAny_callSpecial?_slot (name := Str.ofString "__next__") hT slot_cmb_next (wpAny_call_entry slot_cmb_next hT entry_cmb_next ?_ (args_cmb_next _))))
  show wpAny _ _ (field (.ref it) 0 >>= _) _ _ s
  refine wpAny_bind (wpAny_field hit rfl (x := .ref P) rfl ?_)
  refine wpAny_bind (numbers hit ?_)
  refine wpAny_bind (stField hit ?_)
  refine wpAny_bind (poolItems hP hd ?_)
  split
  · rename_i nx' hx
    have hx : nextC items.size idx = some nx' := hx
    rw [hnx] at hx
    cases hx
  refine wpAny_bind (wpAny_setField_rec (vs := cmbF (.ref P) 1 last idx) hit (by rw [size_cmbF]; omega) fun h1 e1 sb => ?_)
  refine stopIt (A := A.in1) hh fun a o h' e1 e2 k => ?_
  refine wpAny_bind (wpAny_isInstance (T := "StopIteration") (b := true) ⟨_, e1, e2⟩ isSubtype_stop ?_)
  exact wpAny_pure (hQ _ fun b o hb e => k b o ((sb.2 b hb).trans e))
/-- combinations(x, r): the object is new, its pool is new -/
theorem call_cmb {x : Value} {i : Int} {t : Tok} {Q : Value → Shared → Prop} (h0 : 0 ≤ i) (h1 : i ≤ 1000)
    (h : ∀ (prog' : Program) (w' : World), wpAny (model prog' w') A.in1.in1 (collect x) (fun vs s1 => vs.length ≤ 1000 ∧ ∀ h', IsCmb h' (s1.heap.objs.size + 1) s1.heap.objs.size (if i.toNat > vs.length then 2 else 0) .none (List.range i.toNat) →
      h'.get? s1.heap.objs.size = some { cls := .type "tuple", data := .seq vs.toArray } → (∀ b o, s1.heap.get? b = some o → h'.get? b = some o) → Q (.ref (s1.heap.objs.size + 1)) { s1 with heap := h' }) E s) :
    wpAny (model prog w) A (call (.type "itertools.combinations") [x, .int i t]) Q E s := by
  refine callType_new called_cmb (by decide +kernel) (typeCall_cmb_2 _ _) (newCall_cmb_2 _ _) (fun obj => F.args_object_init_3 obj _ _) entry_cmb_new (meets_cmb_new x i t h0 h1) fun prog' w' => ?_
  refine wpAny_mono (h prog' w') (fun vs s1 ⟨hl, q⟩ => ⟨hl, ?_⟩) fun e s' z => z
  have hs : (s1.heap.push { cls := .type "tuple", data := .seq vs.toArray }).objs.size = s1.heap.objs.size + 1 := PyProof.Rows.size_push' ..
  have e1 : ((s1.heap.push { cls := .type "tuple", data := .seq vs.toArray }).push (cmbObj (.ref s1.heap.objs.size) (if i.toNat > vs.length then 2 else 0) .none (List.range i.toNat))).get? (s1.heap.objs.size + 1) = some (cmbObj (.ref s1.heap.objs.size) (if i.toNat > vs.length then 2 else 0) .none (List.range i.toNat)) := by
    rw [← hs]
    exact Heap.get?_push_size _ rfl
  show _ ∧ _
  exact ⟨⟨_, e1, rfl⟩, q _ e1 (Heap.get?_push_of_some _ (Heap.get?_push_size _ rfl)) fun b o e => Heap.get?_push_of_some _ (Heap.get?_push_of_some _ e)⟩
end
end CpComb
end
section
set_option Elab.async false
set_option linter.all false
set_option maxRecDepth 100000
set_option maxHeartbeats 4000000
namespace CpComb
open PySem
/-- r of lo, .., lo + m - 1, in their order -/
def combR : Nat → Nat → Nat → List (List Nat)
  | _, _, 0 => [[]]
  | 0, _, _ + 1 => []
  | m + 1, lo, r + 1 => (combR m (lo + 1) r).map (lo :: ·) ++ combR m (lo + 1) (r + 1)
theorem combR_zero (m lo : Nat) : combR m lo 0 = [[]] := by cases m <;> rfl
theorem combR_none : ∀ (m lo r : Nat), m < r → combR m lo r = []
  | _, _, 0, h => absurd h (Nat.not_lt_zero _)
  | 0, _, _ + 1, _ => rfl
  | m + 1, lo, r + 1, h => by rw [combR, combR_none m (lo + 1) r (by omega), combR_none m (lo + 1) (r + 1) (by omega)]; rfl
theorem combR_len : ∀ (m lo r : Nat) (a : List Nat), a ∈ combR m lo r → a.length = r
  | m, lo, 0, a, h => by
    rw [combR_zero] at h
    rw [List.mem_singleton.mp h]
    rfl
  | 0, _, _ + 1, _, h => nomatch h
  | m + 1, lo, r + 1, a, h => by
    rw [combR] at h
    rcases List.mem_append.mp h with z | z
    · obtain ⟨b, hb, rfl⟩ := List.mem_map.mp z
      rw [List.length_cons, combR_len m (lo + 1) r b hb]
    · exact combR_len m (lo + 1) (r + 1) a z
theorem combR_head : ∀ (m lo r : Nat), r ≤ m → (combR m lo r)[0]? = some ((List.range r).map (lo + ·))
  | m, lo, 0, _ => by rw [combR_zero]; rfl
  | m + 1, lo, r + 1, h => by
    rw [combR, List.getElem?_append_left (by
      have := combR_head m (lo + 1) r (by omega)
      rw [List.length_map]
      exact (List.getElem?_eq_some_iff.mp this).1), List.getElem?_map, combR_head m (lo + 1) r (by omega)]
    show some (lo :: (List.range r).map (lo + 1 + ·)) = _
    congr 1
    rw [List.range_succ_eq_map, List.map_cons, List.map_map]
    congr 1
    exact List.map_congr_left fun x _ => by
      show lo + 1 + x = lo + (x + 1)
      omega
theorem next_cons (n x : Nat) (xs : List Nat) (h : xs.length + 1 ≤ n) : nextC n (x :: xs) = match nextC n xs with
    | some ys => some (x :: ys)
    | none => if x != n - (xs.length + 1) then some ((List.range (xs.length + 1)).map (x + 1 + ·)) else none := by
  unfold nextC
  rw [List.length_cons, List.range_succ_eq_map, List.reverse_cons, List.find?_append, ← List.map_reverse, List.find?_map]
  have e : ((fun i => (x :: xs).getD i 0 != i + n - (xs.length + 1)) ∘ Nat.succ) = fun i => xs.getD i 0 != i + n - xs.length := funext fun i => by
    show (xs.getD i 0 != i + 1 + n - (xs.length + 1)) = _
    rw [show i + 1 + n - (xs.length + 1) = i + n - xs.length by omega]
  rw [e]
  cases c : (List.range xs.length).reverse.find? fun i => xs.getD i 0 != i + n - xs.length with
  | some i =>
    show some ((x :: xs).take (i + 1) ++ (List.range (xs.length + 1 - (i + 1))).map ((x :: xs).getD (i + 1) 0 + 1 + ·)) = some (x :: (xs.take i ++ (List.range (xs.length - i)).map (xs.getD i 0 + 1 + ·)))
    rw [List.take_succ_cons, show xs.length + 1 - (i + 1) = xs.length - i by omega]
    rfl
  | none =>
    show (match (List.find? (fun i => (x :: xs).getD i 0 != i + n - (xs.length + 1)) [0]) with
      | none => none
      | some i => some ((x :: xs).take i ++ (List.range (xs.length + 1 - i)).map ((x :: xs).getD i 0 + 1 + ·))) = _
    rw [List.find?_cons, List.find?_nil]
    show (match (match x != 0 + n - (xs.length + 1) with | true => some 0 | false => none) with
      | none => none
      | some i => some ((x :: xs).take i ++ (List.range (xs.length + 1 - i)).map ((x :: xs).getD i 0 + 1 + ·))) = _
    rw [Nat.zero_add]
    cases (x != n - (xs.length + 1)) with
    | true =>
      rw [← List.range_succ_eq_map]
      rfl
    | false => rfl
theorem combR_next : ∀ (m lo r n : Nat), lo + m = n → ∀ (i : Nat) (a : List Nat), (combR m lo r)[i]? = some a → nextC n a = (combR m lo r)[i + 1]?
  | m, lo, 0, n, _, i, a, h => by
    rw [combR_zero] at h ⊢
    cases i with
    | zero => cases h; rfl
    | succ i => cases h
  | 0, _, _ + 1, _, _, _, _, h => nomatch h
  | m + 1, lo, r + 1, n, hn, i, a, h => by
    rw [combR] at h ⊢
    by_cases c : i < (combR m (lo + 1) r).length
    · rw [List.getElem?_append_left (by rw [List.length_map]; exact c), List.getElem?_map] at h
      obtain ⟨b, hb, rfl⟩ := Option.map_eq_some_iff.mp h
      have hlen := combR_len m (lo + 1) r b (List.mem_of_getElem? hb)
      have hrm : r ≤ m := Nat.le_of_not_lt fun z => by rw [combR_none m (lo + 1) r z] at c; exact Nat.not_lt_zero _ c
      rw [next_cons n lo b (by omega), combR_next m (lo + 1) r n (by omega) i b hb]
      by_cases c2 : i + 1 < (combR m (lo + 1) r).length
      · rw [List.getElem?_append_left (by rw [List.length_map]; exact c2), List.getElem?_map, List.getElem?_eq_getElem c2]
        rfl
      · rw [List.getElem?_eq_none (by omega), List.getElem?_append_right (by rw [List.length_map]; omega), List.length_map, show i + 1 - (combR m (lo + 1) r).length = 0 by omega]
        show (if (lo != n - (b.length + 1)) = true then _ else none) = _
        rw [hlen]
        by_cases c3 : r + 1 ≤ m
        · rw [if_pos (by rw [bne_iff_ne]; omega), combR_head m (lo + 1) (r + 1) c3]
        · rw [if_neg (by rw [bne_iff_ne]; omega), combR_none m (lo + 1) (r + 1) (by omega)]
          rfl
    · rw [List.getElem?_append_right (by rw [List.length_map]; omega), List.length_map] at h
      rw [combR_next m (lo + 1) (r + 1) n (by omega) _ a h, List.getElem?_append_right (by rw [List.length_map]; omega), List.length_map]
      congr 1
      omega
/-- the choices of r of these things, in their order -/
def combL {α : Type} : List α → Nat → List (List α)
  | _, 0 => [[]]
  | [], _ + 1 => []
  | x :: xs, r + 1 => (combL xs r).map (x :: ·) ++ combL xs (r + 1)
theorem combL_zero {α : Type} (xs : List α) : combL xs 0 = [[]] := by cases xs <;> rfl
theorem combR_pick {α : Type} (d : α) (full : List α) : ∀ (m lo r : Nat), lo + m = full.length → (combR m lo r).map (fun idx => idx.map fun i => full.getD i d) = combL (full.drop lo) r
  | m, lo, 0, _ => by rw [combR_zero, combL_zero]; rfl
  | 0, lo, r + 1, h => by
    rw [List.drop_of_length_le (by omega)]
    rfl
  | m + 1, lo, r + 1, h => by
    have hlo : lo < full.length := by omega
    rw [List.drop_eq_getElem_cons hlo, combR, combL, List.map_append, List.map_map, ← combR_pick d full m (lo + 1) r (by omega), ← combR_pick d full m (lo + 1) (r + 1) (by omega), List.map_map]
    congr 1
    refine List.map_congr_left fun idx _ => ?_
    show full.getD lo d :: _ = full[lo] :: _
    rw [List.getD_eq_getElem?_getD, List.getElem?_eq_getElem hlo]
    rfl
theorem combL_map {α β : Type} (f : α → β) : ∀ (xs : List α) (r : Nat), combL (xs.map f) r = (combL xs r).map (List.map f)
  | xs, 0 => by rw [combL_zero, combL_zero]; rfl
  | [], r + 1 => rfl
  | x :: xs, r + 1 => by
    rw [List.map_cons, combL, combL, combL_map f xs r, combL_map f xs (r + 1), List.map_append, List.map_map, List.map_map]
    rfl
theorem mem_combL {α : Type} : ∀ {xs : List α} {r : Nat} {a : List α}, a ∈ combL xs r ↔ a.Sublist xs ∧ a.length = r
  | xs, 0, a => by
    rw [combL_zero, List.mem_singleton]
    exact ⟨fun h => by rw [h]; exact ⟨List.nil_sublist _, rfl⟩, fun h => List.eq_nil_of_length_eq_zero h.2⟩
  | [], r + 1, a => by
    constructor
    · exact fun h => nomatch h
    · rintro ⟨h1, h2⟩
      rw [List.sublist_nil.mp h1] at h2
      cases h2
  | x :: xs, r + 1, a => by
    rw [combL, List.mem_append, List.mem_map]
    constructor
    · rintro (⟨b, hb, rfl⟩ | h)
      · obtain ⟨h1, h2⟩ := mem_combL.mp hb
        exact ⟨h1.cons₂ x, by rw [List.length_cons, h2]⟩
      · obtain ⟨h1, h2⟩ := mem_combL.mp h
        exact ⟨h1.cons x, h2⟩
    · rintro ⟨h1, h2⟩
      cases h1 with
      | cons _ h => exact .inr (mem_combL.mpr ⟨h, h2⟩)
      | cons_cons _ h => exact .inl ⟨_, mem_combL.mpr ⟨h, by simpa using h2⟩, rfl⟩
end CpComb
end
section
set_option Elab.async false
set_option linter.all false
set_option maxRecDepth 100000
set_option maxHeartbeats 4000000
namespace L2
open PySem PySem.Spec PyProof.Rows CpComb
def TnC (it P : Addr) (us : List Value) (r : Nat) (i : Nat) (h : Heap) : Prop :=
  (∃ oP n, h.get? P = some oP ∧ oP.data = .seq us.toArray n) ∧ P ≠ it ∧ ∃ st last idx, IsCmb h it P st last idx ∧
    ((i = 0 ∧ r ≤ us.length ∧ st = 0 ∧ idx = List.range r) ∨ (us.length < r ∧ st = 2) ∨ (1 ≤ i ∧ r ≤ us.length ∧ st = 1 ∧ (combR us.length 0 r)[i - 1]? = some idx))
theorem pick_comb (us : List Value) (r : Nat) : (combR us.length 0 r).map (pickT us.toArray) = combL us r := by
  have := combR_pick Value.none us us.length 0 r (by omega)
  rw [List.drop_zero] at this
  rw [← this]
  refine List.map_congr_left fun idx _ => ?_
  unfold pickT
  refine List.map_congr_left fun i _ => ?_
  simp [Array.getD, List.getD_eq_getElem?_getD]
  split
  · rename_i h
    rw [List.getElem?_eq_getElem h]
    rfl
  · rename_i h
    rw [List.getElem?_eq_none (by omega)]
    rfl
theorem len_comb {α β : Type} : ∀ {xs : List α} {ys : List β} (r : Nat), xs.length = ys.length → (combL xs r).length = (combL ys r).length
  | xs, ys, 0, _ => by rw [combL_zero, combL_zero]; rfl
  | [], [], r + 1, _ => rfl
  | x :: xs, y :: ys, r + 1, h => by
    have h' : xs.length = ys.length := by simpa using h
    rw [combL, combL, List.length_append, List.length_append, List.length_map, List.length_map, len_comb r h', len_comb (r + 1) h']
theorem vals_comb : ∀ {xs : List V} {us : List Value} (_ : Vals xs us) (r i : Nat) {c : List V} (_ : (combL xs r)[i]? = some c), ∃ ws, (combL us r)[i]? = some ws ∧ Vals c ws
  | xs, us, rv, 0, i, c, h => by
    rw [combL_zero] at h ⊢
    cases i with
    | zero => cases h; exact ⟨[], rfl, .nil⟩
    | succ i => cases h
  | _, _, .nil, r + 1, i, c, h => nomatch h
  | x :: xs, u :: us, .cons r1 rv, r + 1, i, c, h => by
    have hl := len_comb r rv.length
    rw [combL] at h ⊢
    by_cases z : i < (combL xs r).length
    · rw [List.getElem?_append_left (by rw [List.length_map]; exact z), List.getElem?_map] at h
      obtain ⟨b, hb, rfl⟩ := Option.map_eq_some_iff.mp h
      obtain ⟨ws, h1, h2⟩ := vals_comb rv r i hb
      exact ⟨u :: ws, by rw [List.getElem?_append_left (by rw [List.length_map, ← hl]; exact z), List.getElem?_map, h1]; rfl, .cons r1 h2⟩
    · rw [List.getElem?_append_right (by rw [List.length_map]; omega), List.length_map] at h
      obtain ⟨ws, h1, h2⟩ := vals_comb rv (r + 1) _ h
      exact ⟨ws, by rw [List.getElem?_append_right (by rw [List.length_map, ← hl]; omega), List.length_map, ← hl]; exact h1, h2⟩
theorem len_combR (us : List Value) (r : Nat) : (combR us.length 0 r).length = (combL us r).length := by rw [← pick_comb, List.length_map]
end L2
end
section
set_option linter.all false
set_option maxRecDepth 100000
set_option maxHeartbeats 1000000
namespace UC
open PySem L2 DL RD CpComb
abbrev Fol := List Int → Int → Bool
def FolS (fol : Fol) : Prop := ∀ a b x, (∀ y, y ∈ a ↔ y ∈ b) → fol a x = fol b x
def stp (c : Nat) (p : List Int) : List Int := (rangeI c).filter fun x => !decide (x ∈ p)
def stF (c : Nat) (fol : Fol) (p : List Int) : List Int := (rangeI c).filter fun x => !decide (x ∈ p) && fol p x
theorem mem_stp {c : Nat} {p : List Int} {x : Int} : x ∈ stp c p ↔ (0 ≤ x ∧ x < (c : Int)) ∧ x ∉ p := by
  unfold stp
  rw [List.mem_filter, mem_rngV, Bool.not_eq_true', decide_eq_false_iff_not]
theorem mem_stF {c : Nat} {fol : Fol} {p : List Int} {x : Int} : x ∈ stF c fol p ↔ ((0 ≤ x ∧ x < (c : Int)) ∧ x ∉ p) ∧ fol p x = true := by
  unfold stF
  rw [List.mem_filter, mem_rngV, Bool.and_eq_true, Bool.not_eq_true', decide_eq_false_iff_not]
  simp only [and_assoc]
theorem stF_stp (c : Nat) (fol : Fol) (p : List Int) : stF c fol p = (stp c p).filter (fol p) := by
  unfold stF stp
  rw [List.filter_filter]
  refine List.filter_congr fun x _ => Bool.and_comm _ _
theorem stF_set {c : Nat} {fol : Fol} (hf : FolS fol) {p q : List Int} (h : ∀ y, y ∈ p ↔ y ∈ q) : stF c fol p = stF c fol q := by
  unfold stF
  refine List.filter_congr fun x _ => ?_
  rw [hf p q x h]
  congr 1
  rw [Bool.eq_iff_iff, Bool.not_eq_true', Bool.not_eq_true', decide_eq_false_iff_not, decide_eq_false_iff_not, h x]
def lvl (c : Nat) : Nat → List (List Int)
  | 0 => [[]]
  | j + 1 => (lvl c j).flatMap fun p => (stp c p).map fun x => p ++ [x]
def extR (c : Nat) : Nat → List Int → List (List Int)
  | 0, _ => [[]]
  | k + 1, p => (stp c p).flatMap fun x => (extR c k (p ++ [x])).map (x :: ·)
theorem lvl_ext (c : Nat) : ∀ k j, ((lvl c j).flatMap fun p => (extR c k p).map (p ++ ·)) = lvl c (j + k)
  | 0, j => by
    rw [Nat.add_zero]
    show ((lvl c j).flatMap fun p => [p ++ []]) = _
    simp
  | k + 1, j => by
    have ih := lvl_ext c k (j + 1)
    rw [show j + 1 + k = j + (k + 1) by omega] at ih
    rw [← ih]
    show _ = ((lvl c j).flatMap fun p => (stp c p).map fun x => p ++ [x]).flatMap fun p => (extR c k p).map (p ++ ·)
    rw [List.flatMap_assoc]
    congr 1
    funext p
    show ((stp c p).flatMap fun x => (extR c k (p ++ [x])).map (x :: ·)).map (p ++ ·) = ((stp c p).map fun x => p ++ [x]).flatMap fun q => (extR c k q).map (q ++ ·)
    rw [List.map_flatMap, List.flatMap_map]
    congr 1
    funext x
    rw [List.map_map]
    refine List.map_congr_left fun r _ => ?_
    show p ++ (x :: r) = (p ++ [x]) ++ r
    rw [List.append_assoc]
    rfl
theorem lvl_all (c : Nat) : lvl c c = extR c c [] := by
  have := lvl_ext c c 0
  rw [Nat.zero_add] at this
  rw [← this]
  show [[]].flatMap _ = _
  simp
/-- the least place at which a listing fails -/
def plF (fol : Fol) : List Int → List Int → Option Nat
  | _, [] => none
  | p, x :: r => if fol p x = true then plF fol (p ++ [x]) r else some p.length
def okL (fol : Fol) : List Int → List Int → Bool
  | _, [] => true
  | p, x :: r => fol p x && okL fol (p ++ [x]) r
theorem plF_none {fol : Fol} : ∀ {r p : List Int}, (plF fol p r).isNone = okL fol p r
  | [], _ => rfl
  | x :: r, p => by
    show (if fol p x = true then plF fol (p ++ [x]) r else some p.length).isNone = (fol p x && okL fol (p ++ [x]) r)
    split
    · rename_i h
      rw [h, Bool.true_and]
      exact plF_none
    · rename_i h
      rw [Bool.not_eq_true] at h
      rw [h]
      rfl
def canF (c : Nat) (fol : Fol) : Nat → List Int → Bool
  | 0, _ => true
  | k + 1, p => (stF c fol p).any fun x => canF c fol k (p ++ [x])
theorem canF_set {c : Nat} {fol : Fol} (hf : FolS fol) : ∀ (k : Nat) {p q : List Int}, (∀ y, y ∈ p ↔ y ∈ q) → canF c fol k p = canF c fol k q
  | 0, _, _, _ => rfl
  | k + 1, p, q, h => by
    show (stF c fol p).any _ = (stF c fol q).any _
    rw [stF_set hf h]
    congr 1
    funext x
    exact canF_set hf k fun y => by rw [List.mem_append, List.mem_append, h y]
def grd (c : Nat) (fol : Fol) : Nat → List Int → Option (List Int)
  | 0, _ => some []
  | k + 1, p => (stF c fol p).findSome? fun x => (grd c fol k (p ++ [x])).map (x :: ·)
theorem grd_some {c : Nat} {fol : Fol} : ∀ (k : Nat) (p : List Int), (grd c fol k p).isSome = canF c fol k p
  | 0, _ => rfl
  | k + 1, p => by
    show ((stF c fol p).findSome? fun x => (grd c fol k (p ++ [x])).map (x :: ·)).isSome = (stF c fol p).any fun x => canF c fol k (p ++ [x])
    rw [List.isSome_findSome?]
    congr 1
    funext x
    rw [Option.isSome_map]
    exact grd_some k (p ++ [x])
theorem filter_flatMap_if {α β : Type} (l : List α) (q : α → Bool) (f : α → List β) : (l.filter q).flatMap f = l.flatMap fun x => if q x = true then f x else [] := by
  induction l with
  | nil => rfl
  | cons x l ih =>
    rw [List.filter_cons, List.flatMap_cons]
    split
    · rw [List.flatMap_cons, ih]
    · rw [ih]
      rfl
theorem head_grd {c : Nat} {fol : Fol} : ∀ (k : Nat) (p : List Int), ((extR c k p).filter (okL fol p)).head? = grd c fol k p
  | 0, _ => rfl
  | k + 1, p => by
    have e : (extR c (k + 1) p).filter (okL fol p) = (stF c fol p).flatMap fun x => ((extR c k (p ++ [x])).filter (okL fol (p ++ [x]))).map (x :: ·) := by
      rw [stF_stp, filter_flatMap_if]
      show ((stp c p).flatMap fun x => (extR c k (p ++ [x])).map (x :: ·)).filter (okL fol p) = _
      rw [List.filter_flatMap]
      congr 1
      funext x
      rw [List.filter_map]
      by_cases h : fol p x = true
      · rw [if_pos h]
        congr 1
        refine List.filter_congr fun r _ => ?_
        show (fol p x && okL fol (p ++ [x]) r) = _
        rw [h, Bool.true_and]
      · rw [if_neg h]
        rw [Bool.not_eq_true] at h
        rw [List.filter_eq_nil_iff.mpr fun r _ => ?_]
        · rfl
        · show ¬ (fol p x && okL fol (p ++ [x]) r) = true
          rw [h]
          exact Bool.false_ne_true
    rw [e, List.head?_flatMap]
    show _ = (stF c fol p).findSome? fun x => (grd c fol k (p ++ [x])).map (x :: ·)
    congr 1
    funext x
    rw [List.head?_map, head_grd k]
/-- what the law takes: the first good one of all listings -/
theorem first_good (c : Nat) (fol : Fol) : ((lvl c c).filter fun l => (plF fol [] l).isNone).head? = grd c fol c [] := by
  rw [← head_grd, lvl_all]
  congr 2
  funext l
  exact plF_none
/-- the listing made step by step -/
theorem grd_step {c : Nat} {fol : Fol} {k : Nat} {p : List Int} {r : List Int} (h : grd c fol (k + 1) p = some r) : ∃ x r', ((stF c fol p).filter fun x => canF c fol k (p ++ [x])).head? = some x ∧ r = x :: r' ∧ grd c fol k (p ++ [x]) = some r' := by
  have key : ∀ l : List Int, (l.findSome? fun x => (grd c fol k (p ++ [x])).map (x :: ·)) = some r → ∃ x r', (l.filter fun x => canF c fol k (p ++ [x])).head? = some x ∧ r = x :: r' ∧ grd c fol k (p ++ [x]) = some r' := by
    intro l
    induction l with
    | nil => exact fun h => nomatch h
    | cons y l ih =>
      intro h
      rw [List.findSome?_cons] at h
      cases e : grd c fol k (p ++ [y]) with
      | none =>
        rw [e] at h
        obtain ⟨x, r', h1, h2, h3⟩ := ih h
        refine ⟨x, r', ?_, h2, h3⟩
        have : canF c fol k (p ++ [y]) = false := by rw [← grd_some, e]; rfl
        rw [List.filter_cons, this]
        exact h1
      | some r' =>
        rw [e] at h
        cases h
        refine ⟨y, r', ?_, rfl, e⟩
        have : canF c fol k (p ++ [y]) = true := by rw [← grd_some, e]; rfl
        rw [List.filter_cons, this]
        rfl
  exact key _ h
theorem plF_grd {c : Nat} {fol : Fol} : ∀ (k : Nat) (p r : List Int), grd c fol k p = some r → plF fol p r = none
  | 0, p, r, h => by
    cases h
    rfl
  | k + 1, p, r, h => by
    obtain ⟨x, r', h1, rfl, h3⟩ := grd_step h
    have hx := (mem_stF.mp (List.mem_filter.mp (List.mem_of_mem_head? (by rw [h1]; rfl))).1).2
    show (if fol p x = true then plF fol (p ++ [x]) r' else some p.length) = none
    rw [if_pos hx]
    exact plF_grd k _ r' h3
theorem len_lvl (c : Nat) : ∀ j, ∀ l ∈ lvl c j, l.length = j ∧ (∀ x ∈ l, 0 ≤ x ∧ x < (c : Int))
  | 0, l, h => by
    rw [List.mem_singleton.mp h]
    exact ⟨rfl, fun x h => (nomatch h)⟩
  | j + 1, l, h => by
    obtain ⟨p, hp, hl⟩ := List.mem_flatMap.mp h
    obtain ⟨x, hx, rfl⟩ := List.mem_map.mp hl
    obtain ⟨h1, h2⟩ := len_lvl c j p hp
    refine ⟨by rw [List.length_append, h1]; rfl, fun y hy => ?_⟩
    rcases List.mem_append.mp hy with z | z
    · exact h2 y z
    · rw [List.mem_singleton.mp z]
      exact (mem_stp.mp hx).1
theorem lvl_count (c : Nat) : ∀ j, (lvl c j).length ≤ c ^ j
  | 0 => Nat.le_refl _
  | j + 1 => by
    have ih := lvl_count c j
    have key : ∀ L : List (List Int), (L.flatMap fun p => (stp c p).map fun x => p ++ [x]).length ≤ c * L.length := by
      intro L
      induction L with
      | nil => exact Nat.zero_le _
      | cons p L ihL =>
        rw [List.flatMap_cons, List.length_append, List.length_map, List.length_cons, Nat.mul_succ]
        have : (stp c p).length ≤ c := Nat.le_trans (List.length_filter_le _ _) (by rw [List.length_map, List.length_range]; exact Nat.le_refl _)
        omega
    have := key (lvl c j)
    show (List.flatMap _ (lvl c j)).length ≤ c ^ (j + 1)
    rw [Nat.pow_succ, Nat.mul_comm]
    exact Nat.le_trans this (Nat.mul_le_mul_left c ih)
end UC
end
section
set_option linter.all false
set_option maxRecDepth 100000
set_option maxHeartbeats 1000000
open PySem L2 DL RD UC
local macro_rules | `(tactic| walk_at "E") => `(tactic| (try simp only [qAsg, qRet, qDrop, qIfS, qTest, qAndT, qOrT, qNotT, qAndV, qOrV, qNotV, qIf, qOp, qUn, qChain, onB, qv, qc, qgN, qgT, qgCons, qgNil, qCons, qNil, qTup, qLst, qPar, qPar3, qAug, qCB, qCall, qLen, qTupleC, qListC, qMax2, qMin2, qIntC, qSum, qAny, qAll, qIsi, tyName, qAdd, qSub, qMul, qFdiv, qMod, qPow, qI2, qCmpI, qEq, qNe, qLt, qLe, qGt, qGe, qNeg, qIx, qDGet, qDIn, qDPut, qSl, qPart, qNoPart, qNext, qFor, qiSeq, qiRng1, qiRng2, qiZip, qiEnum, qLc, seqSrc, lsrc, titems, litems, sitems, fz, newL, List.getElem?_cons_zero, List.getElem?_cons_succ, List.set_cons_zero, List.set_cons_succ, if_true, if_false, Bool.false_eq_true, ite_true, ite_false, up_same, reduceIte, decide_true, decide_false, true_and, and_true]))
local macro_rules | `(tactic| walk_at "D") => `(tactic| (try simp only [qAsg, qRet, qDrop, qIfS, qTest, qAndT, qOrT, qNotT, qAndV, qOrV, qNotV, qIf, qOp, qUn, qChain, onB, qv, qc, qgN, qgT, qgCons, qgNil, qCons, qNil, qTup, qLst, qPar, qPar3, qAug, qCB, qCall, qLen, qTupleC, qListC, qMax2, qMin2, qIntC, qSum, qAny, qAll, qIsi, tyName, qAdd, qSub, qMul, qFdiv, qMod, qPow, qI2, qCmpI, qEq, qNe, qLt, qLe, qGt, qGe, qNeg, qIx, qDGet, qDIn, qDPut, qSl, qPart, qNoPart, qNext, qFor, qiSeq, qiRng1, qiRng2, qiZip, qiEnum, qLc, seqSrc, lsrc, titems, litems, sitems, fz, newL, List.getElem?_cons_zero, List.getElem?_cons_succ, List.set_cons_zero, List.set_cons_succ, if_true, if_false, Bool.false_eq_true, ite_true, ite_false, up_same, reduceIte, decide_true, decide_false, true_and, and_true, eqv_int, eqv_bool, eqv_TI, eqv_LI, eqv_TT, eqv_LT, eqv_nilL, eqv_nilT, shaped_TI, shaped_LI, shaped_TT, shaped_LT, shaped_int, shaped_bool, shaped_nilL, shaped_nilT, dints_map2, dbools_map2, datas_map, mkT_map, mkT_0, mkT_1, mkT_2, mkT_3, List.length_map, List.length_cons, List.length_nil, List.length_append, List.map_cons, List.map_nil, wipeD, Bool.not_true, Bool.not_false, eq_self, not_true_eq_false, not_false_eq_true, kitB_tt, kitB_ll, kitB_dd, kitB_bb, kitB_ib, kitB_ii, kitB_ss, kitB_tl, kitB_lt, Function.comp, datas, Option.map_some, List.cons_append, List.nil_append, CPow, le_size4, Int.toNat_natCast, rngD0, I_eq, Bo_eq, BS.qSortB, in_IT, in_IL, in_TT, in_TL, qNotN, qIsN, qSortD, qListRg, qDispT, keyX_TI, qGet, qiItems, qLockE, qLockS, qPop, qMaxDf, qLc2, qMax1, qMin1, qAppend, qExtend, tints_TI, dv_TI, Option.bind_some, qRetN, atI_0, atI_1, atI_2, mk_appT, mk_snocI, idl, rep_I, Option.map_none, eqv_idl, shaped_idl, Bool.and_self, Bool.true_and, Bool.and_true]))
local macro_rules | `(tactic| walk_at "F") => `(tactic| (try simp only [qAsg, qRet, qDrop, qIfS, qTest, qAndT, qOrT, qNotT, qAndV, qOrV, qNotV, qIf, qOp, qUn, qChain, onB, qv, qc, qgN, qgT, qgCons, qgNil, qCons, qNil, qTup, qLst, qPar, qPar3, qAug, qCB, qCall, qLen, qTupleC, qListC, qMax2, qMin2, qIntC, qSum, qAny, qAll, qIsi, tyName, qAdd, qSub, qMul, qFdiv, qMod, qPow, qI2, qCmpI, qEq, qNe, qLt, qLe, qGt, qGe, qNeg, qIx, qDGet, qDIn, qDPut, qSl, qPart, qNoPart, qNext, qFor, qiRng1, qiRng2, qiZip, qiEnum, qLc, fz, newL, List.getElem?_cons_zero, List.getElem?_cons_succ, List.set_cons_zero, List.set_cons_succ, if_true, if_false, Bool.false_eq_true, ite_true, ite_false, up_same, reduceIte, decide_true, decide_false, true_and, and_true, eqv_int, eqv_bool, eqv_TI, eqv_LI, eqv_TT, eqv_LT, eqv_nilL, eqv_nilT, shaped_TI, shaped_LI, shaped_TT, shaped_LT, shaped_int, shaped_bool, shaped_nilL, shaped_nilT, dints_map2, dbools_map2, datas_map, mkT_map, mkT_0, mkT_1, mkT_2, mkT_3, List.length_map, List.length_cons, List.length_nil, List.length_append, List.map_cons, List.map_nil, wipeD, Bool.not_true, Bool.not_false, eq_self, not_true_eq_false, not_false_eq_true, kitB_tt, kitB_ll, kitB_dd, kitB_bb, kitB_ib, kitB_ii, kitB_ss, kitB_tl, kitB_lt, Function.comp, datas, Option.map_some, List.cons_append, List.nil_append, CPow, le_size4, Int.toNat_natCast, rngD0, I_eq, Bo_eq, BS.qSortB, in_IT, in_IL, in_TT, in_TL, qNotN, qIsN, qSortD, qListRg, qDispT, keyX_TI, qGet, qiItems, qLockE, qLockS, qPop, qMaxDf, qLc2, qMax1, qMin1, qAppend, qExtend, tints_TI, dv_TI, Option.bind_some, qRetN, atI_0, atI_1, atI_2, mk_appT, mk_snocI, idl, rep_I, Option.map_none, eqv_idl, shaped_idl, Bool.and_self, Bool.true_and, Bool.and_true]))
namespace UC
open PySem L2 DL RD
end UC
end
section
set_option Elab.async false
set_option linter.all false
set_option maxRecDepth 100000
set_option maxHeartbeats 4000000
namespace L2
open PySem PySem.Spec PyProof.Rows CpComb
end L2
end
section
set_option Elab.async false
set_option linter.all false
set_option maxRecDepth 100000
set_option maxHeartbeats 4000000
namespace L2
open PySem PySem.Spec PyProof.Rows CpComb
end L2
end
section
set_option Elab.async false
set_option linter.all false
set_option maxRecDepth 100000
set_option maxHeartbeats 4000000
namespace DL
open PySem PySem.Spec L2 PyProof.Rows CpComb
section
variable {P : Program} {w : World} {K : PySem.W.Frag} {mg : Str → Option Value} {base : Heap} {X : Cx} {N : List Str} {sc fs : Scope} {k : Nat}
theorem rvs_comb {F : Hp} : ∀ {vs : List V} {xs : List DV} (_ : RVs K F vs xs) (r i : Nat) {y : List DV} (_ : (combL xs r)[i]? = some y), ∃ c, (combL vs r)[i]? = some c ∧ RVs K F c y
  | vs, xs, rv, 0, i, y, h => by
    rw [combL_zero] at h ⊢
    cases i with
    | zero => cases h; exact ⟨[], rfl, .nil⟩
    | succ i => cases h
  | _, _, .nil, r + 1, i, y, h => nomatch h
  | v :: vs, x :: xs, .cons r1 rv, r + 1, i, y, h => by
    have hl := len_comb r rv.length
    rw [combL] at h ⊢
    by_cases z : i < (combL xs r).length
    · rw [List.getElem?_append_left (by rw [List.length_map]; exact z), List.getElem?_map] at h
      obtain ⟨b, hb, rfl⟩ := Option.map_eq_some_iff.mp h
      obtain ⟨ws, h1, h2⟩ := rvs_comb rv r i hb
      exact ⟨v :: ws, by rw [List.getElem?_append_left (by rw [List.length_map, hl]; exact z), List.getElem?_map, h1]; rfl, .cons r1 h2⟩
    · rw [List.getElem?_append_right (by rw [List.length_map]; omega), List.length_map] at h
      obtain ⟨ws, h1, h2⟩ := rvs_comb rv (r + 1) _ h
      exact ⟨ws, by rw [List.getElem?_append_right (by rw [List.length_map, hl]; omega), List.length_map, hl]; exact h1, h2⟩
end
end DL
end
section
set_option Elab.async false
set_option linter.all false
set_option maxRecDepth 100000
set_option maxHeartbeats 4000000
namespace CpComb
open PySem PySem.Spec PyProof.Rows L2
theorem cmb_no_len : typeLookup (.type "itertools.combinations") "__len__" = pure none := by rw [typeLookup_type, builtinLookup_eq_fast]; kernel_rfl
theorem cmb_no_hint : typeLookup (.type "itertools.combinations") "__length_hint__" = pure none := by rw [typeLookup_type, builtinLookup_eq_fast]; kernel_rfl
abbrev tupO (ws : List Value) : Obj := { cls := .type "tuple", data := .seq ws.toArray }
section
variable {prog : Program} {w : World} {A : Around} {E : Value → Shared → Prop} {s : Shared} {it P : Addr} {us : List Value} {r i : Nat}
theorem step_cmb {Q : Option Value → Shared → Prop} {ws : List Value} (hr : r ≤ 1000) (st : TnC it P us r i s.heap) (hws : (combL us r)[i]? = some ws)
    (hQ : ∀ h', h'.get? s.heap.objs.size = some (tupO ws) → TnC it P us r (i + 1) h' → (∀ b o, b ≠ it → s.heap.get? b = some o → h'.get? b = some o) → Q (some (.ref s.heap.objs.size)) { s with heap := h' }) : wpAny (model prog w) A (pyNext (.ref it)) Q E s := by
  obtain ⟨⟨oP, n, hP, hd⟩, hne, s1, last, idx, hc, q⟩ := st
  have hgu : i < (combL us r).length := (List.getElem?_eq_some_iff.mp hws).1
  have hrl : r ≤ us.length := Nat.le_of_not_lt fun z => by
    rw [← len_combR, combR_none us.length 0 r z] at hgu
    exact Nat.not_lt_zero _ hgu
  have hgR : i < (combR us.length 0 r).length := by rw [len_combR]; exact hgu
  obtain ⟨nx, hnx⟩ : ∃ nx, (combR us.length 0 r)[i]? = some nx := ⟨_, List.getElem?_eq_getElem hgR⟩
  have hpick : pickT us.toArray nx = ws := by
    have := hws
    rw [← pick_comb, List.getElem?_map, hnx] at this
    exact Option.some.inj this
  have hnl : nx.length = r := combR_len _ _ _ nx (List.mem_of_getElem? hnx)
  have fin : ∀ h', GaveC it P us.toArray nx s h' → Q (some (.ref s.heap.objs.size)) { s with heap := h' } := by
    rintro h' ⟨g1, g2, g3⟩
    rw [hpick] at g2
    exact hQ h' g2 ⟨⟨oP, n, g3 P oP hne hP, hd⟩, hne, 1, _, nx, g1, .inr (.inr ⟨Nat.succ_pos _, hrl, rfl, hnx⟩)⟩ g3
  rcases q with ⟨rfl, _, rfl, rfl⟩ | ⟨z, _⟩ | ⟨i1, _, rfl, hi⟩
  · have e0 := combR_head us.length 0 r hrl
    rw [hnx] at e0
    have e1 : nx = List.range r := by
      rw [Option.some.inj e0]
      simp
    refine CpComb.next_first hc hP hd hne (by rw [List.length_range]; exact hr) fun h' g => fin h' (by rw [e1]; exact g)
  · omega
  · have hx := combR_next us.length 0 r us.length (by omega) (i - 1) idx hi
    rw [show i - 1 + 1 = i by omega, hnx] at hx
    refine CpComb.next_step hc hP hd hne (nx := nx) (by rw [List.size_toArray]; exact hx) (by omega) fin
theorem stop_cmb {Q : Option Value → Shared → Prop} (hh : A.handled = none) (st : TnC it P us r i s.heap) (hi : (combL us r).length ≤ i)
    (hQ : ∀ h', Heap.ExtBut it s.heap h' → Q none { s with heap := h' }) : wpAny (model prog w) A (pyNext (.ref it)) Q E s := by
  obtain ⟨⟨oP, n, hP, hd⟩, hne, s1, last, idx, hc, q⟩ := st
  have hgR : (combR us.length 0 r).length ≤ i := by rw [len_combR]; exact hi
  rcases q with ⟨rfl, hrl, rfl, rfl⟩ | ⟨_, rfl⟩ | ⟨i1, hrl, rfl, hi'⟩
  · have := (List.getElem?_eq_some_iff.mp (combR_head us.length 0 r hrl)).1
    omega
  · exact CpComb.next_over hh hc hQ
  · refine CpComb.next_end hh hc hP hd ?_ hQ
    have hx := combR_next us.length 0 r us.length (by omega) (i - 1) idx hi'
    rw [show i - 1 + 1 = i by omega, List.getElem?_eq_none hgR] at hx
    rw [List.size_toArray]
    exact hx
/-- the tuples that stand in the list so far -/
structure Got (h : Heap) (n0 : Nat) (S it : Addr) (Ts : List Addr) (L : List (List Value)) : Prop where
  len : Ts.length ≤ L.length
  at' : ∀ (j : Nat) T ws, Ts[j]? = some T → L[j]? = some ws → h.get? T = some (tupO ws)
  nd : Ts.Nodup
  ne : ∀ T ∈ Ts, T ≠ S ∧ T ≠ it ∧ n0 ≤ T ∧ T < h.objs.size
theorem Got.move {h h' : Heap} {n0 : Nat} {S it : Addr} {Ts : List Addr} {L : List (List Value)} (g : Got h n0 S it Ts L) (k : ∀ b o, b ≠ S → b ≠ it → h.get? b = some o → h'.get? b = some o) : Got h' n0 S it Ts L where
  len := g.len
  at' := fun j T ws h1 h2 => k T _ (g.ne T (List.mem_of_getElem? h1)).1 (g.ne T (List.mem_of_getElem? h1)).2.1 (g.at' j T ws h1 h2)
  nd := g.nd
  ne := fun T hT => by
    obtain ⟨j, hj, e⟩ := List.mem_iff_getElem.mp hT
    obtain ⟨n1, n2, n3, _⟩ := g.ne T hT
    have h1 : Ts[j]? = some T := by rw [List.getElem?_eq_getElem hj, e]
    have hjL : j < L.length := Nat.lt_of_lt_of_le hj g.len
    have h2 : L[j]? = some L[j] := List.getElem?_eq_getElem hjL
    exact ⟨n1, n2, n3, Heap.lt_size (k T _ n1 n2 (g.at' j T _ h1 h2))⟩
theorem loop_cmb {R : Result → Shared → Prop} {n0 : Nat} (hh : A.handled = none) (S : Addr) (hSi : S ≠ it) (hSP : S ≠ P) (res : Value) (hr : r ≤ 1000) (hlen : (combL us r).length ≤ sizeLine) :
    ∀ (k : Nat) (s : Shared) (Ts : List Addr) (c : Nat), (combL us r).length - Ts.length = k → TnC it P us r Ts.length s.heap → s.heap.get? S = some { cls := .type "list", dict := none, data := .seq (Ts.map Value.ref).toArray c, slots := #[] } →
      Got s.heap n0 S it Ts (combL us r) → n0 ≤ s.heap.objs.size →
      (∀ h' (Ts' : List Addr) c', (∀ b o, b ≠ S → b ≠ it → s.heap.get? b = some o → h'.get? b = some o) → h'.get? S = some { cls := .type "list", dict := none, data := .seq (Ts'.map Value.ref).toArray c', slots := #[] } →
        Got h' n0 S it Ts' (combL us r) → Ts'.length = (combL us r).length → R (.ok (.ret res)) { s with heap := h' }) →
      codeAny (model prog w) A (.builtin "list.extend.loop" ⟨[.ref S, .ref it, res], []⟩) R s := by
  intro k
  induction k with
  | zero =>
    intro s Ts c hk st hS g hn hR
    have hl : Ts.length = (combL us r).length := Nat.le_antisymm g.len (by omega)
    refine codeAny_builtin F.entry_extend_loop ?_
    rw [Around.under_plainId F.plain_extend_loop _]
    show wpAny _ A.in1 (pyNext (.ref it) >>= _) _ _ s
    refine wpAny_bind (stop_cmb hh st (by omega) fun h' eb => ?_)
    have kp : ∀ b o, b ≠ S → b ≠ it → s.heap.get? b = some o → h'.get? b = some o := fun b o _ hb e => eb b o hb e
    exact wpAny_pure (hR h' Ts c kp (eb S _ hSi hS) (g.move kp) hl)
  | succ k ih =>
    intro s Ts c hk st hS g hn hR
    have hlt : Ts.length < (combL us r).length := by omega
    refine codeAny_builtin F.entry_extend_loop ?_
    rw [Around.under_plainId F.plain_extend_loop _]
    show wpAny _ A.in1 (pyNext (.ref it) >>= _) _ _ s
    refine wpAny_bind (step_cmb hr st (List.getElem?_eq_getElem hlt) fun h' hT st' kp => ?_)
    have hS' := kp S _ hSi hS
    show wpAny _ A.in1 (updateSeq S (·.push (.ref s.heap.objs.size)) >>= _) _ _ _
    refine wpAny_bind ?_
    refine wpAny_updateSeq hS' rfl (wpAny_pure ⟨plainId_quiet F.plain_extend_loop _, ?_⟩)
      (by rw [List.size_toArray, List.length_map]; omega) (by show ((Ts.map Value.ref).toArray.push _).size ≤ sizeLine + 1; rw [Array.size_push, List.size_toArray, List.length_map]; omega)
    have hSl := Heap.lt_size hS
    obtain ⟨⟨oP, nP, hP, hPd⟩, hPi, s1', last', idx', hc', q'⟩ := id st
    have hil := Heap.lt_size hc'
    have k2 : ∀ b o, b ≠ S → h'.get? b = some o → (h'.update S (Obj.mapSeq (·.push (.ref s.heap.objs.size)))).get? b = some o := fun b o hb e => (Heap.get?_update_other _ _ (Ne.symm hb)).trans e
    have kp2 : ∀ b o, b ≠ S → b ≠ it → s.heap.get? b = some o → (h'.update S (Obj.mapSeq (·.push (.ref s.heap.objs.size)))).get? b = some o := fun b o h1 h2 e => k2 b o h1 (kp b o h2 e)
    have g1 := g.move kp2
    have hTn := k2 _ _ (Nat.ne_of_gt hSl) hT
    refine ih { s with heap := h'.update S (Obj.mapSeq (·.push (.ref s.heap.objs.size))) } (Ts ++ [s.heap.objs.size]) (if ((Ts.map Value.ref).toArray.push (.ref s.heap.objs.size)).size == (Ts.map Value.ref).toArray.size then c else c + 1) (by rw [List.length_append, List.length_singleton]; omega) ?_ ?_ ?_ ?_ fun h2 Ts' c' kq hq gq hl => ?_
    · rw [List.length_append, List.length_singleton]
      obtain ⟨⟨oP2, n2, hP2, hd2⟩, hne2, s2, l2, x2, hc2, q2⟩ := st'
      exact ⟨⟨oP2, n2, k2 _ _ (Ne.symm hSP) hP2, hd2⟩, hne2, s2, l2, x2, k2 _ _ (Ne.symm hSi) hc2, q2⟩
    · rw [List.map_append, List.map_singleton, ← List.push_toArray]
      exact Heap.get?_update_self _ hS' rfl
    · refine ⟨by rw [List.length_append, List.length_singleton]; omega, fun j T ws h1 h3 => ?_, ?_, fun T hT2 => ?_⟩
      · by_cases z : j < Ts.length
        · rw [List.getElem?_append_left z] at h1
          exact g1.at' j T ws h1 h3
        · have hj : j = Ts.length := by
            have := (List.getElem?_eq_some_iff.mp h1).1
            rw [List.length_append, List.length_singleton] at this
            omega
          subst hj
          rw [List.getElem?_append_right (Nat.le_refl _), Nat.sub_self] at h1
          cases h1
          rw [List.getElem?_eq_getElem hlt] at h3
          cases h3
          exact hTn
      · rw [List.nodup_append]
        refine ⟨g.nd, by simp, fun a ha b hb e => ?_⟩
        rw [List.mem_singleton.mp hb] at e
        exact absurd e (Nat.ne_of_lt (g.ne a ha).2.2.2)
      · rcases List.mem_append.mp hT2 with z | z
        · exact g1.ne T z
        · rw [List.mem_singleton.mp z]
          exact ⟨Nat.ne_of_gt hSl, Nat.ne_of_gt hil, hn, Heap.lt_size hTn⟩
    · exact Nat.le_trans hn (Nat.le_of_lt (Heap.lt_size hTn))
    · exact hR h2 Ts' c' (fun b o h1 h3 e => kq b o h1 h3 (kp2 b o h1 h3 e)) hq gq hl
end
end CpComb
end
section
set_option Elab.async false
set_option linter.all false
set_option maxRecDepth 100000
set_option maxHeartbeats 400000
namespace CpComb
open PySem PySem.Spec PyProof.Rows L2
section
variable {prog : Program} {w : World} {A : Around} {E : Value → Shared → Prop} {s : Shared} {it P : Addr} {us : List Value} {r i : Nat}
theorem call_list_cmb {Q : Value → Shared → Prop} (hh : A.handled = none) (st : TnC it P us r 0 s.heap) (hr : r ≤ 1000) (hlen : (combL us r).length ≤ sizeLine)
    (hQ : ∀ h' (Ts : List Addr) c, (∀ b o, b ≠ it → s.heap.get? b = some o → h'.get? b = some o) → h'.get? s.heap.objs.size = some { cls := .type "list", dict := none, data := .seq (Ts.map Value.ref).toArray c, slots := #[] } →
      Got h' s.heap.objs.size s.heap.objs.size it Ts (combL us r) → Ts.length = (combL us r).length → Q (.ref s.heap.objs.size) { s with heap := h' }) :
    wpAny (model prog w) A (call (.type "list") [.ref it]) Q E s := by
  obtain ⟨⟨oP, nP, hP, hPd⟩, hPi, s1', last', idx', hc', q'⟩ := id st
  have hil := Heap.lt_size hc'
  have hPl := Heap.lt_size hP
  have hSi : s.heap.objs.size ≠ it := Nat.ne_of_gt hil
  have hSP : s.heap.objs.size ≠ P := Nat.ne_of_gt hPl
  refine callType_codes (Q₁ := fun obj s₁ => obj = .ref s.heap.objs.size ∧ s₁ = { s with heap := s.heap.push { cls := .type "list", data := .seq #[] } }) F.called_list (F.typeCall_list_1 _) F.entry_list_init
    (code_list_new _ ⟨rfl, rfl⟩) fun obj s₁ h₁ => ?_
  obtain ⟨rfl, rfl⟩ := h₁
  have hS : (s.heap.push { cls := .type "list", data := .seq #[] }).get? s.heap.objs.size = some { cls := .type "list", data := .seq #[] } := Heap.get?_push_size _ rfl
  refine ⟨⟨_, hS, rfl⟩, F.args_list_init_2 _ _, ?_⟩
  show wpAny _ A.in1.in1 (do let old ← Builtin.List.listItems (.ref s.heap.objs.size); Builtin.List.listUpdate (.ref s.heap.objs.size) (fun _ => #[]); letGo old.toList.reverse; Builtin.List.listExtendWith (.ref s.heap.objs.size) (.ref it) .none) _ _ _
  refine wpAny_bind ?_
  unfold Builtin.List.listItems
  refine wpAny_bind (wpAny_seqItems hS rfl (wpAny_pure ?_))
  show wpAny _ A.in1.in1 (updateSeq s.heap.objs.size (fun _ => #[]) >>= fun _ => letGo (#[] : Array Value).toList.reverse >>= fun _ => Builtin.List.listExtendWith (.ref s.heap.objs.size) (.ref it) .none) _ _ _
  refine wpAny_bind (wpAny_updateSeq hS rfl ?_)
  have hS2 := Heap.get?_update_self (Obj.mapSeq (fun _ => (#[] : Array Value))) hS rfl
  refine wpAny_bind (wpAny_letGo ?_)
  unfold Builtin.List.listExtendWith
  have up : ∀ (h : Heap) (f : Obj → Obj), (∀ b o, s.heap.get? b = some o → h.get? b = some o) → ∀ b o, s.heap.get? b = some o → (h.update s.heap.objs.size f).get? b = some o := fun h f q b o e =>
    (Heap.get?_update_other _ _ (Ne.symm (Nat.ne_of_lt (Heap.lt_size e)))).trans (q b o e)
  have k1 : ∀ b o, s.heap.get? b = some o → (s.heap.push { cls := .type "list", data := .seq #[] }).get? b = some o := fun b o e => Heap.get?_push_of_some _ e
  have k2 := up _ (Obj.mapSeq (fun _ => (#[] : Array Value))) k1
  have gty : ∀ {h : Heap}, (∀ b o, s.heap.get? b = some o → h.get? b = some o) → ({ s with heap := h } : Shared).TypeIs (.ref it) "itertools.combinations" := fun {h} q => ⟨_, q _ _ hc', rfl⟩
  refine wpAny_bind (wpAny_typeOf (gty k2) ?_)
  have h1 : Builtin.List.listSameRef (.ref s.heap.objs.size) (.ref it) = false := by simp [Builtin.List.listSameRef, hSi]
  have h2 : (Value.type "itertools.combinations" == Value.type "list") = false := by decide +kernel
  have h3 : (Value.type "itertools.combinations" == Value.type "tuple") = false := by decide +kernel
  simp only [h1, h2, h3, Bool.or_false, Bool.false_eq_true, if_false]
  refine wpAny_bind (iter_cmb (s := { s with heap := _ }) (k2 _ _ hc') ?_)
  refine wpAny_bind (wpAny_holding ?_)
  unfold Builtin.List.listLengthHint
  refine wpAny_bind (wpAny_specialOf (gty k2) cmb_no_len ?_)
  show wpAny _ A.in1.in1 (specialOf (Value.ref it) (Str.ofString "__length_hint__") >>= _) _ _ _
  refine wpAny_bind (wpAny_specialOf (gty k2) cmb_no_hint ?_)
  refine wpAny_pure ?_
  show wpAny _ A.in1.in1 (rule "list.extend.makes-room" >>= fun _ => Builtin.List.listTouch (.ref s.heap.objs.size) >>= fun _ =>
    again (.builtin "list.extend.loop" ⟨[.ref s.heap.objs.size, .ref it, .none], []⟩)) _ _ _
  refine wpAny_bind (wpAny_rule ?_)
  refine wpAny_bind ?_
  show wpAny _ A.in1.in1 (updateSeq s.heap.objs.size (·.push .none) >>= fun _ => updateSeq s.heap.objs.size (·.pop)) _ _ _
  refine wpAny_bind (wpAny_updateSeq hS2 rfl ?_)
  have hS3 := Heap.get?_update_self (Obj.mapSeq (·.push Value.none)) hS2 rfl
  refine wpAny_updateSeq (hz := by seq_fits) hS3 rfl ?_
  have hS4 := Heap.get?_update_self (Obj.mapSeq (·.pop)) hS3 rfl
  have k4 := up _ (Obj.mapSeq (·.pop)) (up _ (Obj.mapSeq (·.push Value.none)) k2)
  refine wpAny_pure ⟨plainId_quiet F.plain_extend_loop _, ?_⟩
  obtain ⟨c4, e4⟩ : ∃ c4, Obj.mapSeq (·.pop) (Obj.mapSeq (·.push Value.none) (Obj.mapSeq (fun _ => (#[] : Array Value)) { cls := .type "list", data := .seq #[] })) = ({ cls := .type "list", dict := none, data := .seq ([] : List Value).toArray c4, slots := #[] } : Obj) := ⟨_, rfl⟩
  rw [e4] at hS4
  generalize ((((s.heap.push { cls := .type "list", data := .seq #[] }).update s.heap.objs.size (Obj.mapSeq fun _ => (#[] : Array Value))).update s.heap.objs.size (Obj.mapSeq (·.push Value.none))).update s.heap.objs.size (Obj.mapSeq (·.pop))) = h4 at hS4 k4 ⊢
  have g0 : Got h4 s.heap.objs.size s.heap.objs.size it [] (combL us r) := ⟨Nat.zero_le _, fun j T ws h1 => (nomatch h1), List.nodup_nil, fun T h => (nomatch h)⟩
  have st4 : TnC it P us r 0 h4 := ⟨⟨oP, nP, k4 _ _ hP, hPd⟩, hPi, s1', last', idx', k4 _ _ hc', q'⟩
  refine loop_cmb (A := A.in1) (n0 := s.heap.objs.size) hh s.heap.objs.size hSi hSP .none hr hlen (combL us r).length { s with heap := h4 } [] c4 (Nat.sub_zero _) st4 hS4 g0 (Nat.le_of_lt (Heap.lt_size hS4)) fun h' Ts c kp hS' g hl => ?_
  exact ⟨rfl, hQ h' Ts c (fun b o hb e => kp b o (Nat.ne_of_lt (Heap.lt_size e)) hb (k4 b o e)) hS' g hl⟩
end
end CpComb
end
section
set_option Elab.async false
set_option linter.all false
set_option maxRecDepth 100000
set_option maxHeartbeats 4000000
namespace L2
open PySem PySem.Spec PyProof.Rows CpComb
def addT (H : Hp) : List (Addr × List V) → Hp
  | [] => H
  | p :: r => upd (addT H r) p.1 (.tup p.2)
theorem addT_out {H : Hp} : ∀ {L : List (Addr × List V)} {a : Addr}, a ∉ L.map (·.1) → addT H L a = H a
  | [], _, _ => rfl
  | p :: r, a, h => by
    rw [List.map_cons, List.mem_cons, not_or] at h
    show upd (addT H r) p.1 (.tup p.2) a = _
    rw [upd_ne h.1]
    exact addT_out h.2
theorem addT_in {H : Hp} : ∀ {L : List (Addr × List V)}, (L.map (·.1)).Nodup → ∀ p ∈ L, addT H L p.1 = some (.tup p.2)
  | [], _, p, h => nomatch h
  | q :: r, nd, p, h => by
    rw [List.map_cons, List.nodup_cons] at nd
    show upd (addT H r) q.1 (.tup q.2) p.1 = _
    rcases List.mem_cons.mp h with z | z
    · rw [z]
      exact upd_same
    · rw [upd_ne fun (e : p.1 = q.1) => nd.1 (by rw [← e]; exact List.mem_map_of_mem z)]
      exact addT_in nd.2 p z
section
variable {X : Cx} {pins : List (Addr × Obj)} {σ : St} {H : Hp} {s : Shared} {h' : Heap}
theorem hok_addT {P : Program} {w : World} (x : HOk P w H h') : ∀ (L : List (Addr × List V)), (L.map (·.1)).Nodup → (∀ p ∈ L, H p.1 = none) → (∀ p ∈ L, p.2.length ≤ sizeLine ∧ ∃ ws, Vals p.2 ws ∧ h'.get? p.1 = some (tupO ws)) → HOk P w (addT H L) h'
  | [], _, _, _ => x
  | p :: r, nd, hn, ho => by
    rw [List.map_cons, List.nodup_cons] at nd
    have ih := hok_addT x r nd.2 (fun q hq => hn q (List.mem_cons_of_mem _ hq)) fun q hq => ho q (List.mem_cons_of_mem _ hq)
    obtain ⟨hl, ws, rv, e⟩ := ho p List.mem_cons_self
    exact HOk.laidN ih (fun _ _ q => q) (by rw [addT_out nd.1]; exact hn p List.mem_cons_self) ⟨hl, ws, rv, ⟨_, e, rfl, _, rfl⟩⟩
theorem Inv.more {H' : Hp} {t' : Nat} (I : Inv X pins σ H s) (k : ∀ b o, s.heap.get? b = some o → h'.get? b = some o) (eq : ∀ b o, s.heap.get? b = some o → H' b = H b) (hok : HOk X.prog X.w H' h') : Inv X pins σ H' { s with heap := h', toks := t' } := by
  have there : ∀ b u, H b = some u → ∃ o, s.heap.get? b = some o := fun b u e => objOk_get (I.hok b u e)
  refine I.un ⟨fun b ob q _ _ _ => k b ob q, fun b ob q _ _ _ => ⟨ob.slots, k b ob q⟩, fun b ob q n _ => by rw [eq b ob q]; exact n, fun b ob q _ => ⟨ob, k b ob q⟩, fun b xs q => ?_, fun b o u q => ?_, fun b ps q => ⟨#[], ?_⟩⟩ hok
  · obtain ⟨o, e⟩ := there b _ q
    rw [eq b o e]; exact q
  · obtain ⟨o', e⟩ := there b _ q
    rw [eq b o' e]; exact q
  · obtain ⟨o', e⟩ := there b _ q
    rw [eq b o' e, q]; simp
end
section
variable {X : Cx}
def tLstCR (te tb : TE) : TE := fun σ H Q => te σ H fun x H1 => ∃ n : Nat, x = .int (n : Int) ∧ n ≤ 1000 ∧ tb σ H1 fun y H2 => ∃ r : Nat, y = .int (r : Int) ∧ r ≤ 1000 ∧ (combL (rgV 0 n) r).length ≤ sizeLine ∧
  ∀ (S : Addr) (Ts : List Addr), Ts.length = (combL (rgV 0 n) r).length → Ts.Nodup → (∀ T ∈ Ts, T ≠ S ∧ H2 T = none) → H2 S = none → Q (.ref S) (upd (addT H2 (Ts.zip (combL (rgV 0 n) r))) S (.lst (Ts.map V.ref)))
theorem vals_refsV : ∀ bs : List Addr, Vals (bs.map V.ref) (bs.map Value.ref)
  | [] => .nil
  | _ :: r => .cons rfl (vals_refsV r)
theorem zip_fst {α β : Type} : ∀ {as : List α} {bs : List β}, as.length = bs.length → (as.zip bs).map (·.1) = as
  | [], _, _ => rfl
  | a :: as, [], h => by simp at h
  | a :: as, b :: bs, h => by
    rw [List.zip_cons_cons, List.map_cons, zip_fst (by simpa using h)]
theorem pe_listCR {e b : Expr} {te tb : TE} {x : Str} {p p1 p2 pos pos1 pos2 : Pos} (hcalm : X.calm = true) (hgL : Gl X "list") (hmL : X.mg "list" = none) (hg : Gl X x) (hm : X.mg x = some (.type "itertools.combinations")) (hg2 : Gl X "range") (hm2 : X.mg "range" = none) (ha : PE X e te) (hb : PE X b tb)
    (na : starEach [e] X.env = (false, eval e X.env) :: starEach [] X.env := by rfl) (hs : starEach [.Call (.Name "range" p2) [e] [] pos2, b] X.env = (false, eval (.Call (.Name "range" p2) [e] [] pos2) X.env) :: starEach [b] X.env := by rfl) (nb : starEach [b] X.env = (false, eval b X.env) :: starEach [] X.env := by rfl)
    (nl : starEach [.Call (.Name x p1) [.Call (.Name "range" p2) [e] [] pos2, b] [] pos1] X.env = (false, eval (.Call (.Name x p1) [.Call (.Name "range" p2) [e] [] pos2, b] [] pos1) X.env) :: starEach [] X.env := by rfl)
    (hpl : (backTo pos1 (starEach [b] X.env)).any (·.1) = false := by rfl) (hd : (x == ("__debug__" : Str)) = false := by decide) : PE X (.Call (.Name "list" p) [.Call (.Name x p1) [.Call (.Name "range" p2) [e] [] pos2, b] [] pos1] [] pos) (tLstCR te tb) := by
  refine ⟨fun pins s σ H Q I h => ?_⟩
  refine Call_ (ld_blt I hgL hmL boot_list (PyProof.Rows.callWith_type1 (args_cons ?_ nl) nl))
  refine Call_ (ld_glob I hg hm (PyProof.Rows.callWith_type1 (args_cons (Call_ (ld_blt I hg2 hm2 boot_range (PyProof.Rows.callWith_type1 (one_arg ha I h (fun v1 s2 x1 H2 I2 r1 q => ?_) na) na))) hs) hs hpl) hd)
  obtain ⟨n, rfl, hn, q⟩ := q
  obtain ⟨t, rfl⟩ := r1
  refine call_range_1 ?_
  have hro := IsRange.new s2.heap 0 (n : Int) 1 s2.toks t (s2.toks + 1)
  have I3 : Inv X pins σ H2 { s2 with heap := s2.heap.push { cls := .type "range", data := .fields #[.int 0 s2.toks, .int (n : Int) t, .int 1 (s2.toks + 1)] }, toks := s2.toks + 1 + 1 } := I2.kept (t' := s2.toks + 1 + 1) fun b o e => Heap.get?_push_of_some _ e
  generalize hs3 : ({ s2 with heap := s2.heap.push { cls := .type "range", data := .fields #[.int 0 s2.toks, .int (n : Int) t, .int 1 (s2.toks + 1)] }, toks := s2.toks + 1 + 1 } : Shared) = s3 at I3
  have hr3 : IsRange s3.heap s2.heap.objs.size 0 (n : Int) 1 s2.toks t (s2.toks + 1) := by rw [← hs3]; exact hro
  have fp : ∀ b ∈ [s2.heap.objs.size], FpOk X pins H2 b := fun b hb => by
    rw [List.mem_singleton.mp hb]
    exact I2.fpOk (Nat.le_refl _) (I2.hok.fresh (Nat.le_refl _))
  have I4 := I3.pinned fp fun b hb => by
    rw [List.mem_singleton.mp hb]
    exact ⟨_, hr3, fun v q => nomatch q⟩
  refine args_cons (thn (hb.run _ _ σ H2 _ I4 q) fun w s5 ⟨y, H5, I5, r5, q5⟩ => args_nil ?_) nb
  obtain ⟨r, rfl, hr, hlen, q5⟩ := q5
  obtain ⟨t2, rfl⟩ := r5
  have hR : IsRange s5.heap s2.heap.objs.size 0 (n : Int) 1 s2.toks t (s2.toks + 1) := (I5.pin (_, _) (List.mem_append_right _ (List.mem_append_right _ (mem_pinsAt (List.mem_singleton.mpr rfl) hr3)))).1
  have I6 := I5.unpinned
  refine call_cmb (by omega) (by omega) fun prog' w' => ?_
  refine collect_range (n := ((n : Int) - 0).toNat) (I6.ok.hd hcalm) hR (small_one (by omega) (by omega) (by omega) (by omega)) (by rw [rangeSize_one]; split <;> omega) (by omega) fun h1 tk acc k1 items => ?_
  have rv := vals_rg items
  have hlA : acc.toList.length ≤ 1000 := by rw [← rv.length, rgV_length]; omega
  refine ⟨hlA, fun h' hit hP k2 => args_nil ?_⟩
  rw [Int.toNat_natCast] at hit
  have hll : (combL acc.toList r).length = (combL (rgV 0 (n : Int)) r).length := (len_comb r rv.length).symm
  have st : TnC (h1.objs.size + 1) h1.objs.size acc.toList r 0 h' := ⟨⟨_, _, hP, by rw [Array.toArray_toList]⟩, Nat.ne_of_lt (Nat.lt_succ_self _), _, _, _, hit, by
    by_cases c : r > acc.toList.length
    · rw [if_pos c]
      exact .inr (.inl ⟨c, rfl⟩)
    · rw [if_neg c]
      exact .inl ⟨rfl, Nat.le_of_not_lt c, rfl, rfl⟩⟩
  refine call_list_cmb (s := { s5 with heap := h', toks := tk }) (I6.ok.hd hcalm) st hr (by rw [hll]; exact hlen) fun h2 Ts c kp hS g hl => ?_
  have kall : ∀ b o, s5.heap.get? b = some o → h2.get? b = some o := fun b o e => kp b o (Nat.ne_of_lt (Nat.lt_succ_of_lt (Heap.lt_size (k1 b o e)))) (k2 b o (k1 b o e))
  have ltN : ∀ b o, s5.heap.get? b = some o → b < h'.objs.size := fun b o e => Heap.lt_size (k2 b o (k1 b o e))
  have newN : ∀ b, h'.objs.size ≤ b → H5 b = none := fun b hb => I6.hok.gone (by
    cases e : s5.heap.get? b with
    | none => rfl
    | some o => exact absurd (ltN b o e) (Nat.not_lt_of_le hb))
  have lT : Ts.length = (combL (rgV 0 (n : Int)) r).length := by rw [hl, hll]
  have zf := zip_fst lT
  have hT : ∀ T ∈ Ts, T ≠ h'.objs.size ∧ H5 T = none := fun T hT => ⟨(g.ne T hT).1, newN T (g.ne T hT).2.2.1⟩
  have hok1 : HOk X.prog X.w (addT H5 (Ts.zip (combL (rgV 0 (n : Int)) r))) h2 := by
    refine hok_addT (I6.hok.kept kall) _ (by rw [zf]; exact g.nd) (fun p hp => (hT p.1 (List.of_mem_zip hp).1).2) fun p hp => ?_
    obtain ⟨j, hj, e⟩ := List.mem_iff_getElem.mp hp
    have h1j : Ts[j]? = some p.1 := by
      have hjT : j < Ts.length := by rw [List.length_zip] at hj; omega
      rw [List.getElem?_eq_getElem hjT, ← e, List.getElem_zip]
    have h2j : (combL (rgV 0 (n : Int)) r)[j]? = some p.2 := by
      have hjT : j < (combL (rgV 0 (n : Int)) r).length := by rw [List.length_zip] at hj; omega
      rw [List.getElem?_eq_getElem hjT, ← e, List.getElem_zip]
    obtain ⟨ws, hws, rw'⟩ := vals_comb rv r j h2j
    refine ⟨?_, ws, rw', g.at' j _ _ h1j hws⟩
    have hmem := List.mem_of_getElem? h2j
    rw [sizeLine_eq]
    have := (mem_combL.mp hmem).2
    omega
  have hnS : addT H5 (Ts.zip (combL (rgV 0 (n : Int)) r)) h'.objs.size = none := by
    rw [addT_out (by rw [zf]; exact fun z => (g.ne _ z).1 rfl)]
    exact newN _ (Nat.le_refl _)
  have hok2 : HOk X.prog X.w (upd (addT H5 (Ts.zip (combL (rgV 0 (n : Int)) r))) h'.objs.size (.lst (Ts.map V.ref))) h2 := HOk.laidN hok1 (fun _ _ q => q) hnS ⟨by rw [List.length_map, lT]; exact hlen, Ts.map Value.ref, c, vals_refsV Ts, hS⟩
  refine ⟨.ref h'.objs.size, _, (I6.tok tk).more (t' := tk) kall (fun b o e => ?_) hok2, rfl, q5 h'.objs.size Ts lT g.nd hT (newN _ (Nat.le_refl _))⟩
  have hb : b < h'.objs.size := ltN b o e
  rw [upd_ne (Nat.ne_of_lt hb), addT_out fun z => ?_]
  rw [zf] at z
  have := (g.ne b z).2.2.1
  exact Nat.lt_irrefl _ (Nat.lt_of_lt_of_le hb this)
end
end L2
end
section
set_option Elab.async false
set_option linter.all false
set_option maxRecDepth 100000
set_option maxHeartbeats 4000000
namespace DL
open PySem PySem.Spec L2 PyProof.Rows CpComb
section
variable {P : Program} {w : World} {K : PySem.W.Frag} {mg : Str → Option Value} {base : Heap} {X : Cx} {N : List Str} {sc fs : Scope} {k : Nat}
theorem rs_addT {F H : Hp} {st : Sto} (R : Rs K F H st) : ∀ (L : List (Addr × List V)), (L.map (·.1)).Nodup → (∀ p ∈ L, H p.1 = none) → Rs K (addT F L) (addT H L) st ∧ Step F H st (addT F L) (addT H L) st
  | [], _, _ => ⟨R, Step.refl _ _ _⟩
  | p :: r, nd, hn => by
    rw [List.map_cons, List.nodup_cons] at nd
    obtain ⟨R1, t1⟩ := rs_addT R r nd.2 fun q hq => hn q (List.mem_cons_of_mem _ hq)
    obtain ⟨R2, t2⟩ := R1.frz (o := .tup p.2) (p := p.1) (by rw [addT_out nd.1]; exact hn p List.mem_cons_self)
    exact ⟨R2, t1.trans t2⟩
theorem rvs_addT {F : Hp} : ∀ (Ts : List Addr) (vs : List (List V)) (xs : List (List DV)), Ts.length = vs.length → vs.length = xs.length → (∀ (j : Nat) T c, Ts[j]? = some T → vs[j]? = some c → F T = some (.tup c)) → (∀ (j : Nat) c y, vs[j]? = some c → xs[j]? = some y → RVs K F c y) → RVs K F (Ts.map V.ref) (xs.map mkT)
  | [], [], [], _, _, _, _ => .nil
  | T :: Ts, c :: vs, y :: xs, h1, h2, h3, h4 => .cons (mkT_rv (h3 0 T c rfl rfl) (h4 0 c y rfl rfl)) (rvs_addT Ts vs xs (by simpa using h1) (by simpa using h2) (fun j T' c' e1 e2 => h3 (j + 1) T' c' e1 e2) fun j c' y' e1 e2 => h4 (j + 1) c' y' e1 e2)
  | [], _ :: _, _, h, _, _, _ => by simp at h
  | _ :: _, [], _, h, _, _, _ => by simp at h
  | _, [], _ :: _, _, h, _, _ => by simp at h
  | _, _ :: _, [], _, h, _, _ => by simp at h
def qListCR (m : Bool) (te tb : TD) : TD := fun ε st Q => te ε st fun x s1 => match x with
  | .d (.int n) => (0 ≤ n ∧ n ≤ 1000) ∧ tb ε s1 fun y s2 => (match y with
    | .d (.int r) => (0 ≤ r ∧ r ≤ 1000) ∧ (combL (rngD 0 n.toNat) r.toNat).length ≤ sizeLine ∧ newL m ((combL (rngD 0 n.toNat) r.toNat).map mkT) s2 Q
    | _ => False)
  | _ => False
theorem de_listCR {e b : Expr} {te tb : TD} {x : Str} {p p1 p2 pos pos1 pos2 : Pos} (m : Bool) (c : Cok P w K mg base X N sc fs k) (hgL : glB sc "list" = true) (hmL : mg "list" = none) (hg : glB sc x = true) (hm : mg x = some (.type "itertools.combinations")) (hg2 : glB sc "range" = true) (hm2 : mg "range" = none) (he : DE X e te) (hb : DE X b tb)
    (na : starEach [e] X.env = (false, eval e X.env) :: starEach [] X.env := by rfl) (hs : starEach [.Call (.Name "range" p2) [e] [] pos2, b] X.env = (false, eval (.Call (.Name "range" p2) [e] [] pos2) X.env) :: starEach [b] X.env := by rfl) (nb : starEach [b] X.env = (false, eval b X.env) :: starEach [] X.env := by rfl)
    (nl : starEach [.Call (.Name x p1) [.Call (.Name "range" p2) [e] [] pos2, b] [] pos1] X.env = (false, eval (.Call (.Name x p1) [.Call (.Name "range" p2) [e] [] pos2, b] [] pos1) X.env) :: starEach [] X.env := by rfl)
    (hpl : (backTo pos1 (starEach [b] X.env)).any (·.1) = false := by rfl) : DE X (.Call (.Name "list" p) [.Call (.Name x p1) [.Call (.Name "range" p2) [e] [] pos2, b] [] pos1] [] pos) (qListCR m te tb) := by
  obtain ⟨t1, p1', a1⟩ := he
  obtain ⟨t2, p2', a2⟩ := hb
  have gL := gl_of c hgL
  have g := gl_of c hg
  have g2 := gl_of c hg2
  refine ⟨⟨_, pe_listCR c.calm gL.1 (by rw [c.hmg]; exact hmL) g.1 (by rw [c.hmg]; exact hm) g2.1 (by rw [c.hmg]; exact hm2) p1' p2' na hs nb nl hpl g.2.2, fun F σ H ε st Qd Q R E h kk => ?_⟩⟩
  refine a1 F σ H ε st _ _ R E h fun F1 v H1 x1 s1 st1 R1 r1 q => ?_
  split at q
  rotate_left
  · exact q.elim
  rename_i n
  cases rv_int r1
  obtain ⟨⟨n0, n1⟩, q⟩ := q
  refine ⟨n.toNat, by rw [show ((n.toNat : Nat) : Int) = n by omega], by omega, ?_⟩
  refine a2 F1 σ H1 ε s1 _ _ R1 (E.mono st1.ex) q fun F2 u H2 y1 s2 st2 R2 r2 q => ?_
  split at q
  rotate_left
  · exact q.elim
  rename_i r
  cases rv_int r2
  obtain ⟨⟨r0, r1⟩, hl, q⟩ := q
  have rv : RVs X.K F2 (rgV 0 ((n.toNat : Nat) : Int)) (rngD 0 n.toNat) := by
    have := rg_rvs (K := X.K) (F := F2) ((n.toNat : Nat) : Int)
    rwa [Int.toNat_natCast] at this
  have hll : (combL (rgV 0 ((n.toNat : Nat) : Int)) r.toNat).length = (combL (rngD 0 n.toNat) r.toNat).length := len_comb r.toNat rv.length
  refine ⟨r.toNat, by rw [show ((r.toNat : Nat) : Int) = r by omega], by omega, by rw [hll]; exact hl, fun S Ts lT nd hT hS => ?_⟩
  have zf := zip_fst lT
  obtain ⟨R3, t3⟩ := rs_addT (L := Ts.zip (combL (rgV 0 ((n.toNat : Nat) : Int)) r.toNat)) R2 (by rw [zf]; exact nd) fun p hp => (hT p.1 (List.of_mem_zip hp).1).2
  have hS3 : addT H2 (Ts.zip (combL (rgV 0 ((n.toNat : Nat) : Int)) r.toNat)) S = none := by
    rw [addT_out (by rw [zf]; exact fun z => (hT _ z).1 rfl)]
    exact hS
  have rvs : RVs X.K (addT F2 (Ts.zip (combL (rgV 0 ((n.toNat : Nat) : Int)) r.toNat))) (Ts.map V.ref) ((combL (rngD 0 n.toNat) r.toNat).map mkT) := by
    refine rvs_addT Ts (combL (rgV 0 ((n.toNat : Nat) : Int)) r.toNat) _ lT hll (fun j T cc h1 h2 => ?_) fun j cc y h1 h2 => ?_
    · have hmem : (T, cc) ∈ Ts.zip (combL (rgV 0 ((n.toNat : Nat) : Int)) r.toNat) := by
        refine List.mem_of_getElem? (i := j) ?_
        rw [List.getElem?_zip_eq_some]
        exact ⟨h1, h2⟩
      exact addT_in (by rw [zf]; exact nd) _ hmem
    · obtain ⟨c', hc', rc⟩ := rvs_comb rv r.toNat j h2
      rw [h1] at hc'
      cases hc'
      exact rc.mono t3.ex
  exact new_lst R3 rvs hS3 q ((kk.step (st1.trans st2)).step t3)
end
end DL
end
section
set_option linter.all false
set_option maxRecDepth 100000
namespace RD
open PySem L2 DL
/-- lots_of(count) slots: 0=count 1=found 2=size -/
def rd_lots_of : TDs :=
  (qSeq (qAsg (qLst true qNil) (qgN 1))
  (qSeq (qFor (qiRng3 (qCons (qv 0) (qCons (qUn qNeg (qc (.d (.int 1)))) (qCons (qUn qNeg (qc (.d (.int 1)))) qNil)))) (qgN 2) (qDrop (qExtend (qv 1) (qListCR false (qv 0) (qv 2)))))
  (qRet (qv 1))))
/-- cut_ahead(generators, ahead, number) slots: 0=generators 1=ahead 2=number 3=one -/
def rd_cut_ahead (sp_cut : SpD) (sp_least_ones : SpD) : TDs :=
  (qRet (qCall sp_least_ones (qCons (qLc false (qiSeq (qv 1)) (qgN 3) qYes (qCall sp_cut (qCons (qOp qIx (qv 0) (qv 3)) (qCons (qOp qIx (qv 0) (qv 2)) qNil))) [3]) qNil)))
/-- follows(generators, ahead, number) slots: 0=generators 1=ahead 2=number 3=degree 4=one 5=monomial -/
def rd_follows (sp_degree_of : SpD) (sp_cut_ahead : SpD) : TDs :=
  (qSeq (qAsg (qCall sp_degree_of (qCons (qOp qIx (qv 0) (qv 2)) qNil)) (qgN 3))
  (qSeq (qFor (qiSeq (qv 1)) (qgN 4) (qIfS (qTest (qOp qGt (qCall sp_degree_of (qCons (qOp qIx (qv 0) (qv 4)) qNil)) (qv 3))) (qRet (qc (.d (.bool false)))) qNext))
  (qRet (qCB qAll (qCons (qLc false (qiSeq (qCall sp_cut_ahead (qCons (qv 0) (qCons (qv 1) (qCons (qv 2) qNil))))) (qgN 5) qYes (qOp qEq (qCall sp_degree_of (qCons (qv 5) qNil)) (qc (.d (.int 1)))) [5]) qNil)))))
/-- quotient_listing(ideal) slots: 0=ideal 1=generators 2=count 3=steps 4=lot 5=one -/
def rd_quotient_listing (sp_lots_of : SpD) (sp_follows : SpD) (sp_least_listing : SpD) : TDs :=
  (qSeq (qAsg (qOp qIx (qv 0) (qc (.d (.int 1)))) (qgN 1))
  (qSeq (qAsg (qCB qLen (qCons (qv 1) qNil)) (qgN 2))
  (qSeq (qIfS (qTest (qOp qGt (qv 2) (qc (.d (.int 7))))) qNever qNext)
  (qSeq (qAsg (qDNew true) (qgN 3))
  (qSeq (qFor (qiSeq (qCall sp_lots_of (qCons (qv 2) qNil))) (qgN 4) (qDPut (qv 3) (qv 4) (qLc false (qiRng1 (qCons (qv 2) qNil)) (qgN 5) (qAndT (qTest (qOp (qIn true) (qv 5) (qv 4))) (qTest (qCall sp_follows (qCons (qv 1) (qCons (qv 4) (qCons (qv 5) qNil)))))) (qv 5) [5])))
  (qRet (qCall sp_least_listing (qCons (qv 2) (qCons (qv 3) qNil)))))))))
/-- _law_shuffled(m, count) slots: 0=m 1=count 2=left 3=found 4=step 5=one 6=other -/
def rd_law_shuffled (sp_law_of : SpD) : TDs :=
  (qSeq (qPar 2 3 (qCons (qListRg false (qv 1)) (qCons (qLst true qNil) qNil)))
  (qSeq (qFor (qiRng1 (qCons (qv 1) qNil)) (qgN 4) (qSeq (qAsg (qCall sp_law_of (qCons (qv 0) (qCons (qv 2) qNil))) (qgN 5))
      (qSeq (qAsg (qLc false (qiSeq (qv 2)) (qgN 6) (qTest (qOp qNe (qv 6) (qv 5))) (qv 6) [6]) (qgN 2))
      (qDrop (qAppend (qv 3) (qv 5))))))
  (qRet (qCB qTupleC (qCons (qv 3) qNil)))))
/-- quotient_breach(ideal, listing) slots: 0=ideal 1=listing 2=place 3=number -/
def rd_quotient_breach (sp_follows : SpD) : TDs :=
  (qSeq (qFor (qiEnum (qCons (qv 1) qNil)) (qgT 2 (qgCons (qgN 2) (qgCons (qgN 3) qgNil))) (qIfS (qNotT (qTest (qCall sp_follows (qCons (qOp qIx (qv 0) (qc (.d (.int 1)))) (qCons (qSl false (qv 1) qNoPart (qPart (qv 2))) (qCons (qv 3) qNil)))))) (qRet (qv 2)) qNext))
  (qRet (qc (.d .none))))
/-- _law_listings(count) slots: 0=count 1=found 2=step 3=longer 4=one 5=k -/
def rd_law_listings : TDs :=
  (qSeq (qAsg (qLst false (qCons (qTup qNil) qNil)) (qgN 1))
  (qSeq (qFor (qiRng1 (qCons (qv 0) qNil)) (qgN 2) (qSeq (qAsg (qLst true qNil) (qgN 3))
      (qSeq (qFor (qiSeq (qv 1)) (qgN 4) (qDrop (qExtend (qv 3) (qLc false (qiRng1 (qCons (qv 0) qNil)) (qgN 5) (qTest (qOp (qIn true) (qv 5) (qv 4))) (qOp (qAdd false) (qv 4) (qTup (qCons (qv 5) qNil))) [5]))))
      (qAsg (qv 3) (qgN 1)))))
  (qRet (qv 1))))
/-- least_listing(count, steps) slots: 0=count 1=steps 2=ends 3=lot 4=listing 5=number 6=one -/
def rd_least_listing (sp_lots_of : SpD) : TDs :=
  (qSeq (qAsg (qDNew true) (qgN 2))
  (qSeq (qFor (qiSeq (qCall sp_lots_of (qCons (qv 0) qNil))) (qgN 3) (qIfS (qTest (qOp qEq (qCB qLen (qCons (qv 3) qNil)) (qv 0))) (qDPut (qv 2) (qv 3) (qc (.d (.bool true)))) (qDPut (qv 2) (qv 3) (qCB qAny (qCons (qLc false (qiSeq (qOp qDGet (qv 1) (qv 3))) (qgN 5) qYes (qOp qDGet (qv 2) (qCB qTupleC (qCons (qSortTI false (qOp (qAdd false) (qv 3) (qTup (qCons (qv 5) qNil)))) qNil))) [5]) qNil)))))
  (qSeq (qIfS (qNotT (qTest (qOp qDGet (qv 2) (qTup qNil)))) (qRet (qc (.d .none))) qNext)
  (qSeq (qAsg (qTup (qCons (qTup qNil) (qCons (qTup qNil) qNil))) (qgT 2 (qgCons (qgN 4) (qgCons (qgN 3) qgNil))))
  (qSeq (qWhile (qTest (qOp qLt (qCB qLen (qCons (qv 3) qNil)) (qv 0))) (qSeq (qAsg (qOp qIx (qLc false (qiSeq (qOp qDGet (qv 1) (qv 3))) (qgN 6) (qTest (qOp qDGet (qv 2) (qCB qTupleC (qCons (qSortTI false (qOp (qAdd false) (qv 3) (qTup (qCons (qv 6) qNil)))) qNil)))) (qv 6) [6]) (qc (.d (.int 0)))) (qgN 5))
      (qAsg (qTup (qCons (qOp (qAdd false) (qv 4) (qTup (qCons (qv 5) qNil))) (qCons (qCB qTupleC (qCons (qSortTI false (qOp (qAdd false) (qv 3) (qTup (qCons (qv 5) qNil)))) qNil)) qNil))) (qgT 2 (qgCons (qgN 4) (qgCons (qgN 3) qgNil))))))
  (qRet (qv 4)))))))
end RD
end
section
set_option linter.all false
set_option maxRecDepth 100000
set_option maxHeartbeats 1000000
open PySem L2 DL RD UC
local macro_rules | `(tactic| walk_at "E") => `(tactic| (try simp only [qAsg, qRet, qDrop, qIfS, qTest, qAndT, qOrT, qNotT, qAndV, qOrV, qNotV, qIf, qOp, qUn, qChain, onB, qv, qc, qgN, qgT, qgCons, qgNil, qCons, qNil, qTup, qLst, qPar, qPar3, qAug, qCB, qCall, qLen, qTupleC, qListC, qMax2, qMin2, qIntC, qSum, qAny, qAll, qIsi, tyName, qAdd, qSub, qMul, qFdiv, qMod, qPow, qI2, qCmpI, qEq, qNe, qLt, qLe, qGt, qGe, qNeg, qIx, qDGet, qDIn, qDPut, qSl, qPart, qNoPart, qNext, qFor, qiSeq, qiRng1, qiRng2, qiZip, qiEnum, qLc, seqSrc, lsrc, titems, litems, sitems, fz, newL, List.getElem?_cons_zero, List.getElem?_cons_succ, List.set_cons_zero, List.set_cons_succ, if_true, if_false, Bool.false_eq_true, ite_true, ite_false, up_same, reduceIte, decide_true, decide_false, true_and, and_true]))
local macro_rules | `(tactic| walk_at "D") => `(tactic| (try simp only [qAsg, qRet, qDrop, qIfS, qTest, qAndT, qOrT, qNotT, qAndV, qOrV, qNotV, qIf, qOp, qUn, qChain, onB, qv, qc, qgN, qgT, qgCons, qgNil, qCons, qNil, qTup, qLst, qPar, qPar3, qAug, qCB, qCall, qLen, qTupleC, qListC, qMax2, qMin2, qIntC, qSum, qAny, qAll, qIsi, tyName, qAdd, qSub, qMul, qFdiv, qMod, qPow, qI2, qCmpI, qEq, qNe, qLt, qLe, qGt, qGe, qNeg, qIx, qDGet, qDIn, qDPut, qSl, qPart, qNoPart, qNext, qFor, qiSeq, qiRng1, qiRng2, qiZip, qiEnum, qLc, seqSrc, lsrc, titems, litems, sitems, fz, newL, List.getElem?_cons_zero, List.getElem?_cons_succ, List.set_cons_zero, List.set_cons_succ, if_true, if_false, Bool.false_eq_true, ite_true, ite_false, up_same, reduceIte, decide_true, decide_false, true_and, and_true, eqv_int, eqv_bool, eqv_TI, eqv_LI, eqv_TT, eqv_LT, eqv_nilL, eqv_nilT, shaped_TI, shaped_LI, shaped_TT, shaped_LT, shaped_int, shaped_bool, shaped_nilL, shaped_nilT, dints_map2, dbools_map2, datas_map, mkT_map, mkT_0, mkT_1, mkT_2, mkT_3, List.length_map, List.length_cons, List.length_nil, List.length_append, List.map_cons, List.map_nil, wipeD, Bool.not_true, Bool.not_false, eq_self, not_true_eq_false, not_false_eq_true, kitB_tt, kitB_ll, kitB_dd, kitB_bb, kitB_ib, kitB_ii, kitB_ss, kitB_tl, kitB_lt, Function.comp, datas, Option.map_some, List.cons_append, List.nil_append, CPow, le_size4, Int.toNat_natCast, rngD0, I_eq, Bo_eq, BS.qSortB, in_IT, in_IL, in_TT, in_TL, qNotN, qIsN, qSortD, qListRg, qDispT, keyX_TI, qGet, qiItems, qLockE, qLockS, qPop, qMaxDf, qLc2, qMax1, qMin1, qAppend, qExtend, tints_TI, dv_TI, Option.bind_some, qRetN, atI_0, atI_1, atI_2, mk_appT, mk_snocI, idl, rep_I, Option.map_none, eqv_idl, shaped_idl, Bool.and_self, Bool.true_and, Bool.and_true]))
local macro_rules | `(tactic| walk_at "F") => `(tactic| (try simp only [qAsg, qRet, qDrop, qIfS, qTest, qAndT, qOrT, qNotT, qAndV, qOrV, qNotV, qIf, qOp, qUn, qChain, onB, qv, qc, qgN, qgT, qgCons, qgNil, qCons, qNil, qTup, qLst, qPar, qPar3, qAug, qCB, qCall, qLen, qTupleC, qListC, qMax2, qMin2, qIntC, qSum, qAny, qAll, qIsi, tyName, qAdd, qSub, qMul, qFdiv, qMod, qPow, qI2, qCmpI, qEq, qNe, qLt, qLe, qGt, qGe, qNeg, qIx, qDGet, qDIn, qDPut, qSl, qPart, qNoPart, qNext, qFor, qiRng1, qiRng2, qiZip, qiEnum, qLc, fz, newL, List.getElem?_cons_zero, List.getElem?_cons_succ, List.set_cons_zero, List.set_cons_succ, if_true, if_false, Bool.false_eq_true, ite_true, ite_false, up_same, reduceIte, decide_true, decide_false, true_and, and_true, eqv_int, eqv_bool, eqv_TI, eqv_LI, eqv_TT, eqv_LT, eqv_nilL, eqv_nilT, shaped_TI, shaped_LI, shaped_TT, shaped_LT, shaped_int, shaped_bool, shaped_nilL, shaped_nilT, dints_map2, dbools_map2, datas_map, mkT_map, mkT_0, mkT_1, mkT_2, mkT_3, List.length_map, List.length_cons, List.length_nil, List.length_append, List.map_cons, List.map_nil, wipeD, Bool.not_true, Bool.not_false, eq_self, not_true_eq_false, not_false_eq_true, kitB_tt, kitB_ll, kitB_dd, kitB_bb, kitB_ib, kitB_ii, kitB_ss, kitB_tl, kitB_lt, Function.comp, datas, Option.map_some, List.cons_append, List.nil_append, CPow, le_size4, Int.toNat_natCast, rngD0, I_eq, Bo_eq, BS.qSortB, in_IT, in_IL, in_TT, in_TL, qNotN, qIsN, qSortD, qListRg, qDispT, keyX_TI, qGet, qiItems, qLockE, qLockS, qPop, qMaxDf, qLc2, qMax1, qMin1, qAppend, qExtend, tints_TI, dv_TI, Option.bind_some, qRetN, atI_0, atI_1, atI_2, mk_appT, mk_snocI, idl, rep_I, Option.map_none, eqv_idl, shaped_idl, Bool.and_self, Bool.true_and, Bool.and_true]))
namespace UC
open PySem L2 DL RD
end UC
end
section
set_option linter.all false
set_option maxRecDepth 100000
set_option maxHeartbeats 1000000
open PySem L2 DL RD UC
local macro_rules | `(tactic| walk_at "E") => `(tactic| (try simp only [qAsg, qRet, qDrop, qIfS, qTest, qAndT, qOrT, qNotT, qAndV, qOrV, qNotV, qIf, qOp, qUn, qChain, onB, qv, qc, qgN, qgT, qgCons, qgNil, qCons, qNil, qTup, qLst, qPar, qPar3, qAug, qCB, qCall, qLen, qTupleC, qListC, qMax2, qMin2, qIntC, qSum, qAny, qAll, qIsi, tyName, qAdd, qSub, qMul, qFdiv, qMod, qPow, qI2, qCmpI, qEq, qNe, qLt, qLe, qGt, qGe, qNeg, qIx, qDGet, qDIn, qDPut, qSl, qPart, qNoPart, qNext, qFor, qiSeq, qiRng1, qiRng2, qiZip, qiEnum, qLc, seqSrc, lsrc, titems, litems, sitems, fz, newL, List.getElem?_cons_zero, List.getElem?_cons_succ, List.set_cons_zero, List.set_cons_succ, if_true, if_false, Bool.false_eq_true, ite_true, ite_false, up_same, reduceIte, decide_true, decide_false, true_and, and_true]))
local macro_rules | `(tactic| walk_at "D") => `(tactic| (try simp only [qAsg, qRet, qDrop, qIfS, qTest, qAndT, qOrT, qNotT, qAndV, qOrV, qNotV, qIf, qOp, qUn, qChain, onB, qv, qc, qgN, qgT, qgCons, qgNil, qCons, qNil, qTup, qLst, qPar, qPar3, qAug, qCB, qCall, qLen, qTupleC, qListC, qMax2, qMin2, qIntC, qSum, qAny, qAll, qIsi, tyName, qAdd, qSub, qMul, qFdiv, qMod, qPow, qI2, qCmpI, qEq, qNe, qLt, qLe, qGt, qGe, qNeg, qIx, qDGet, qDIn, qDPut, qSl, qPart, qNoPart, qNext, qFor, qiSeq, qiRng1, qiRng2, qiZip, qiEnum, qLc, seqSrc, lsrc, titems, litems, sitems, fz, newL, List.getElem?_cons_zero, List.getElem?_cons_succ, List.set_cons_zero, List.set_cons_succ, if_true, if_false, Bool.false_eq_true, ite_true, ite_false, up_same, reduceIte, decide_true, decide_false, true_and, and_true, eqv_int, eqv_bool, eqv_TI, eqv_LI, eqv_TT, eqv_LT, eqv_nilL, eqv_nilT, shaped_TI, shaped_LI, shaped_TT, shaped_LT, shaped_int, shaped_bool, shaped_nilL, shaped_nilT, dints_map2, dbools_map2, datas_map, mkT_map, mkT_0, mkT_1, mkT_2, mkT_3, List.length_map, List.length_cons, List.length_nil, List.length_append, List.map_cons, List.map_nil, wipeD, Bool.not_true, Bool.not_false, eq_self, not_true_eq_false, not_false_eq_true, kitB_tt, kitB_ll, kitB_dd, kitB_bb, kitB_ib, kitB_ii, kitB_ss, kitB_tl, kitB_lt, Function.comp, datas, Option.map_some, List.cons_append, List.nil_append, CPow, le_size4, Int.toNat_natCast, rngD0, I_eq, Bo_eq, BS.qSortB, in_IT, in_IL, in_TT, in_TL, qNotN, qIsN, qSortD, qListRg, qDispT, keyX_TI, qGet, qiItems, qLockE, qLockS, qPop, qMaxDf, qLPut, qDNew, qListItems, qListDK, qLc2, qMax1, qMin1, qAppend, qExtend, tints_TI, dv_TI, Option.bind_some, qRetN, atI_0, atI_1, atI_2, mk_appT, mk_snocI, idl, rep_I, Option.map_none, eqv_idl, shaped_idl, Bool.and_self, Bool.true_and, Bool.and_true]))
local macro_rules | `(tactic| walk_at "F") => `(tactic| (try simp only [qAsg, qRet, qDrop, qIfS, qTest, qAndT, qOrT, qNotT, qAndV, qOrV, qNotV, qIf, qOp, qUn, qChain, onB, qv, qc, qgN, qgT, qgCons, qgNil, qCons, qNil, qTup, qLst, qPar, qPar3, qAug, qCB, qCall, qLen, qTupleC, qListC, qMax2, qMin2, qIntC, qSum, qAny, qAll, qIsi, tyName, qAdd, qSub, qMul, qFdiv, qMod, qPow, qI2, qCmpI, qEq, qNe, qLt, qLe, qGt, qGe, qNeg, qIx, qDGet, qDIn, qDPut, qSl, qPart, qNoPart, qNext, qFor, qiRng1, qiRng2, qiZip, qiEnum, qLc, fz, newL, List.getElem?_cons_zero, List.getElem?_cons_succ, List.set_cons_zero, List.set_cons_succ, if_true, if_false, Bool.false_eq_true, ite_true, ite_false, up_same, reduceIte, decide_true, decide_false, true_and, and_true, eqv_int, eqv_bool, eqv_TI, eqv_LI, eqv_TT, eqv_LT, eqv_nilL, eqv_nilT, shaped_TI, shaped_LI, shaped_TT, shaped_LT, shaped_int, shaped_bool, shaped_nilL, shaped_nilT, dints_map2, dbools_map2, datas_map, mkT_map, mkT_0, mkT_1, mkT_2, mkT_3, List.length_map, List.length_cons, List.length_nil, List.length_append, List.map_cons, List.map_nil, wipeD, Bool.not_true, Bool.not_false, eq_self, not_true_eq_false, not_false_eq_true, kitB_tt, kitB_ll, kitB_dd, kitB_bb, kitB_ib, kitB_ii, kitB_ss, kitB_tl, kitB_lt, Function.comp, datas, Option.map_some, List.cons_append, List.nil_append, CPow, le_size4, Int.toNat_natCast, rngD0, I_eq, Bo_eq, BS.qSortB, in_IT, in_IL, in_TT, in_TL, qNotN, qIsN, qSortD, qListRg, qDispT, keyX_TI, qGet, qiItems, qLockE, qLockS, qPop, qMaxDf, qLPut, qDNew, qListItems, qListDK, qLc2, qMax1, qMin1, qAppend, qExtend, tints_TI, dv_TI, Option.bind_some, qRetN, atI_0, atI_1, atI_2, mk_appT, mk_snocI, idl, rep_I, Option.map_none, eqv_idl, shaped_idl, Bool.and_self, Bool.true_and, Bool.and_true]))
namespace UC
open PySem L2 DL RD
theorem TIs_dv (F : List (List Int)) : List.map DV.d (List.map TI F) = F.map fun a => DV.d (TI a) := by rw [List.map_map]; rfl
end UC
end
section
set_option linter.all false
set_option maxRecDepth 100000
set_option maxHeartbeats 1000000
namespace UC
open PySem L2 DL RD
def lowI (i : Int) : Prop := 0 ≤ i ∧ i ≤ 6
theorem short_int {i : Int} (h : lowI i) : (PyData.shown (.int i)).length ≤ 13 := PyData.shown_int_le2 (by have := h.1; omega) (by have := h.2; omega)
theorem show_int {i : Int} (h : lowI i) : PyData.showable (.int i) = true := by
  obtain ⟨h1, h2⟩ := h
  obtain ⟨n, rfl⟩ : ∃ n : Nat, i = (n : Int) := ⟨i.toNat, by omega⟩
  have : n ≤ 6 := by omega
  show decide _ = true
  have e : n.log2 < 1920 := by
    have : n.log2 ≤ n := Nat.log2_le_self n
    omega
  exact decide_eq_true e
structure Shw (n : Nat) (d : PyData) : Prop where
  s : d.showable = true
  l : d.leavesShort 13 = true
  h : d.hasDict = false
  b : d.bulk ≤ n
theorem shw_int {i : Int} (h : lowI i) : Shw 0 (.int i) := ⟨show_int h, by
  show PyData.leavesShort 13 (.int i) = true
  simp only [PyData.leavesShort, decide_eq_true_eq]
  exact short_int h, by simp only [PyData.hasDict], by simp only [PyData.bulk]; omega⟩
theorem shw_all {n : Nat} : ∀ {xs : List PyData}, (∀ x ∈ xs, Shw n x) → PyData.showableAll xs = true ∧ PyData.leavesShortAll 13 xs = true ∧ PyData.hasDictAll xs = false ∧ PyData.bulkAll xs ≤ (n + 1) * xs.length
  | [], _ => ⟨by simp only [PyData.showableAll], by simp only [PyData.leavesShortAll], by simp only [PyData.hasDictAll], by simp only [PyData.bulkAll]; omega⟩
  | x :: xs, h => by
    obtain ⟨h1, h2, h3, h4⟩ := shw_all (xs := xs) fun y hy => h y (List.mem_cons_of_mem _ hy)
    obtain ⟨g1, g2, g3, g4⟩ := h x List.mem_cons_self
    refine ⟨by simp only [PyData.showableAll, g1, h1, Bool.and_self], by simp only [PyData.leavesShortAll, g2, h2, Bool.and_self], by simp only [PyData.hasDictAll, g3, h3, Bool.or_self], ?_⟩
    simp only [PyData.bulkAll, List.length_cons, Nat.mul_succ]
    omega
theorem shw_tup {n k : Nat} {xs : List PyData} (h : ∀ x ∈ xs, Shw n x) (hk : (n + 1) * xs.length ≤ k) : Shw k (.tuple xs) := by
  obtain ⟨h1, h2, h3, h4⟩ := shw_all h
  exact ⟨by simp only [PyData.showable, h1], by simp only [PyData.leavesShort, h2], by simp only [PyData.hasDict, h3], by simp only [PyData.bulk]; omega⟩
theorem Shw.mono {n m : Nat} {d : PyData} (h : Shw n d) (hm : n ≤ m) : Shw m d := ⟨h.s, h.l, h.h, Nat.le_trans h.b hm⟩
theorem Shw.ok {n : Nat} {d : PyData} (h : Shw n d) (hn : n ≤ 1000000) (hd : d.depth ≤ 16) : reprOk d :=
  ⟨h.s, h.h, hd, PyData.shown_fits_bulk (B := 13) (by decide) (by decide) h.l (Nat.le_trans h.b (by omega))⟩
theorem shw_TI {a : List Int} (h : Fc a) : Shw 7 (TI a) := shw_tup (n := 0) (fun x hx => by
  obtain ⟨i, hi, rfl⟩ := List.mem_map.mp hx
  exact shw_int (h.2 i hi)) (by rw [List.length_map]; have := h.1; omega)
end UC
end
section
set_option linter.all false
set_option maxRecDepth 100000
set_option maxHeartbeats 1000000
open PySem L2 DL RD UC
local macro_rules | `(tactic| walk_at "E") => `(tactic| (try simp only [qAsg, qRet, qDrop, qIfS, qTest, qAndT, qOrT, qNotT, qAndV, qOrV, qNotV, qIf, qOp, qUn, qChain, onB, qv, qc, qgN, qgT, qgCons, qgNil, qCons, qNil, qTup, qLst, qPar, qPar3, qAug, qCB, qCall, qLen, qTupleC, qListC, qMax2, qMin2, qIntC, qSum, qAny, qAll, qIsi, tyName, qAdd, qSub, qMul, qFdiv, qMod, qPow, qI2, qCmpI, qEq, qNe, qLt, qLe, qGt, qGe, qNeg, qIx, qDGet, qDIn, qDPut, qSl, qPart, qNoPart, qNext, qFor, qiSeq, qiRng1, qiRng2, qiZip, qiEnum, qLc, seqSrc, lsrc, titems, litems, sitems, fz, newL, List.getElem?_cons_zero, List.getElem?_cons_succ, List.set_cons_zero, List.set_cons_succ, if_true, if_false, Bool.false_eq_true, ite_true, ite_false, up_same, reduceIte, decide_true, decide_false, true_and, and_true]))
local macro_rules | `(tactic| walk_at "D") => `(tactic| (try simp only [qAsg, qRet, qDrop, qIfS, qTest, qAndT, qOrT, qNotT, qAndV, qOrV, qNotV, qIf, qOp, qUn, qChain, onB, qv, qc, qgN, qgT, qgCons, qgNil, qCons, qNil, qTup, qLst, qPar, qPar3, qAug, qCB, qCall, qLen, qTupleC, qListC, qMax2, qMin2, qIntC, qSum, qAny, qAll, qIsi, tyName, qAdd, qSub, qMul, qFdiv, qMod, qPow, qI2, qCmpI, qEq, qNe, qLt, qLe, qGt, qGe, qNeg, qIx, qDGet, qDIn, qDPut, qSl, qPart, qNoPart, qNext, qFor, qiSeq, qiRng1, qiRng2, qiZip, qiEnum, qLc, seqSrc, lsrc, titems, litems, sitems, fz, newL, List.getElem?_cons_zero, List.getElem?_cons_succ, List.set_cons_zero, List.set_cons_succ, if_true, if_false, Bool.false_eq_true, ite_true, ite_false, up_same, reduceIte, decide_true, decide_false, true_and, and_true, eqv_int, eqv_bool, eqv_TI, eqv_LI, eqv_TT, eqv_LT, eqv_nilL, eqv_nilT, shaped_TI, shaped_LI, shaped_TT, shaped_LT, shaped_int, shaped_bool, shaped_nilL, shaped_nilT, dints_map2, dbools_map2, datas_map, mkT_map, mkT_0, mkT_1, mkT_2, mkT_3, List.length_map, List.length_cons, List.length_nil, List.length_append, List.map_cons, List.map_nil, wipeD, Bool.not_true, Bool.not_false, eq_self, not_true_eq_false, not_false_eq_true, kitB_tt, kitB_ll, kitB_dd, kitB_bb, kitB_ib, kitB_ii, kitB_ss, kitB_tl, kitB_lt, Function.comp, datas, Option.map_some, List.cons_append, List.nil_append, CPow, le_size4, Int.toNat_natCast, rngD0, I_eq, Bo_eq, BS.qSortB, in_IT, in_IL, in_TT, in_TL, qNotN, qIsN, qSortD, qListRg, qDispT, keyX_TI, qGet, qiItems, qLockE, qLockS, qPop, qMaxDf, qLPut, qDNew, qListItems, qListDK, qLc2, qMax1, qMin1, qAppend, qExtend, tints_TI, dv_TI, Option.bind_some, qRetN, atI_0, atI_1, atI_2, mk_appT, mk_snocI, idl, rep_I, Option.map_none, eqv_idl, shaped_idl, Bool.and_self, Bool.true_and, Bool.and_true]))
local macro_rules | `(tactic| walk_at "F") => `(tactic| (try simp only [qAsg, qRet, qDrop, qIfS, qTest, qAndT, qOrT, qNotT, qAndV, qOrV, qNotV, qIf, qOp, qUn, qChain, onB, qv, qc, qgN, qgT, qgCons, qgNil, qCons, qNil, qTup, qLst, qPar, qPar3, qAug, qCB, qCall, qLen, qTupleC, qListC, qMax2, qMin2, qIntC, qSum, qAny, qAll, qIsi, tyName, qAdd, qSub, qMul, qFdiv, qMod, qPow, qI2, qCmpI, qEq, qNe, qLt, qLe, qGt, qGe, qNeg, qIx, qDGet, qDIn, qDPut, qSl, qPart, qNoPart, qNext, qFor, qiRng1, qiRng2, qiZip, qiEnum, qLc, fz, newL, List.getElem?_cons_zero, List.getElem?_cons_succ, List.set_cons_zero, List.set_cons_succ, if_true, if_false, Bool.false_eq_true, ite_true, ite_false, up_same, reduceIte, decide_true, decide_false, true_and, and_true, eqv_int, eqv_bool, eqv_TI, eqv_LI, eqv_TT, eqv_LT, eqv_nilL, eqv_nilT, shaped_TI, shaped_LI, shaped_TT, shaped_LT, shaped_int, shaped_bool, shaped_nilL, shaped_nilT, dints_map2, dbools_map2, datas_map, mkT_map, mkT_0, mkT_1, mkT_2, mkT_3, List.length_map, List.length_cons, List.length_nil, List.length_append, List.map_cons, List.map_nil, wipeD, Bool.not_true, Bool.not_false, eq_self, not_true_eq_false, not_false_eq_true, kitB_tt, kitB_ll, kitB_dd, kitB_bb, kitB_ib, kitB_ii, kitB_ss, kitB_tl, kitB_lt, Function.comp, datas, Option.map_some, List.cons_append, List.nil_append, CPow, le_size4, Int.toNat_natCast, rngD0, I_eq, Bo_eq, BS.qSortB, in_IT, in_IL, in_TT, in_TL, qNotN, qIsN, qSortD, qListRg, qDispT, keyX_TI, qGet, qiItems, qLockE, qLockS, qPop, qMaxDf, qLPut, qDNew, qListItems, qListDK, qLc2, qMax1, qMin1, qAppend, qExtend, tints_TI, dv_TI, Option.bind_some, qRetN, atI_0, atI_1, atI_2, mk_appT, mk_snocI, idl, rep_I, Option.map_none, eqv_idl, shaped_idl, Bool.and_self, Bool.true_and, Bool.and_true]))
namespace UC
open PySem L2 DL RD
theorem comp_byT {α : Type} (h : α → DV) {inv : Sto → Prop} {g : TDg} {tt : TDt} {te : TD} {ε : DL.Env} {Kc : List DV → Sto → Prop} (W : Nat → List DV → Sto → Prop) (hi : ∀ i acc st, W i acc st → inv st) (l : List α) (st : Sto) (w0 : W 0 [] st)
    (hs : ∀ (i : Nat) (x : α) acc st, l[i]? = some x → W i acc st → ∀ L : List DV → Sto → Prop, (∀ acc' st', W (i + 1) acc' st' → L acc' st') → g (h x) ε st fun ε1 s1 => tt ε1 s1 fun b s2 => if b = true then te ε1 s2 fun y s3 => L (acc ++ [y]) s3 else L acc s2)
    (hd : ∀ acc st, W l.length acc st → Kc acc st) : qComp inv g tt te ε Kc (l.map h) [] st := by
  have : ∀ (r : List α) (i : Nat) acc st, l.drop i = r → i + r.length = l.length → W i acc st → qComp inv g tt te ε Kc (r.map h) acc st := by
    intro r
    induction r with
    | nil =>
      intro i acc st hdr hlen w
      have e : i = l.length := by simpa using hlen
      subst e
      exact ⟨hi _ _ _ w, hd _ _ w⟩
    | cons y r ih =>
      intro i acc st hdr hlen w
      have hx : l[i]? = some y := by
        have := congrArg (fun z => z[0]?) hdr
        simp only [List.getElem?_drop, List.getElem?_cons_zero, Nat.add_zero] at this
        exact this
      refine ⟨hi _ _ _ w, hs i y acc st hx w _ fun acc' st' w' => ?_⟩
      refine ih (i + 1) acc' st' ?_ (by simp only [List.length_cons] at hlen; omega) w'
      rw [← List.drop_drop, hdr]
      rfl
  exact this l 0 [] st rfl (by simp) w0
theorem go_repr {d : PyData} {st : Sto} {Q : DV → Sto → Prop} (ok : reprOk d) (hs : ∀ x, d ≠ .str x) (h : Q (.d (.str d.shown)) st) : qRepr [.d d] st Q := ⟨ok, hs, h⟩
theorem go_neS {x : Str} {st : Sto} {Q : DV → Sto → Prop} (h : Q (Bo false) st) : qNeS (.d (.str x)) (.d (.str x)) st Q := by
  show Q (.d (.bool (x.cps.toList != x.cps.toList))) st
  rw [show (x.cps.toList != x.cps.toList) = false by simp]
  exact h
end UC
end
section
set_option linter.all false
set_option maxRecDepth 100000
set_option maxHeartbeats 1000000
open PySem L2 DL RD UC
local macro_rules | `(tactic| walk_at "E") => `(tactic| (try simp only [qAsg, qRet, qDrop, qIfS, qTest, qAndT, qOrT, qNotT, qAndV, qOrV, qNotV, qIf, qOp, qUn, qChain, onB, qv, qc, qgN, qgT, qgCons, qgNil, qCons, qNil, qTup, qLst, qPar, qPar3, qAug, qCB, qCall, qLen, qTupleC, qListC, qMax2, qMin2, qIntC, qSum, qAny, qAll, qIsi, tyName, qAdd, qSub, qMul, qFdiv, qMod, qPow, qI2, qCmpI, qEq, qNe, qLt, qLe, qGt, qGe, qNeg, qIx, qDGet, qDIn, qDPut, qSl, qPart, qNoPart, qNext, qFor, qiSeq, qiRng1, qiRng2, qiZip, qiEnum, qLc, seqSrc, lsrc, titems, litems, sitems, fz, newL, List.getElem?_cons_zero, List.getElem?_cons_succ, List.set_cons_zero, List.set_cons_succ, if_true, if_false, Bool.false_eq_true, ite_true, ite_false, up_same, reduceIte, decide_true, decide_false, true_and, and_true]))
local macro_rules | `(tactic| walk_at "D") => `(tactic| (try simp only [qAsg, qRet, qDrop, qIfS, qTest, qAndT, qOrT, qNotT, qAndV, qOrV, qNotV, qIf, qOp, qUn, qChain, onB, qv, qc, qgN, qgT, qgCons, qgNil, qCons, qNil, qTup, qLst, qPar, qPar3, qAug, qCB, qCall, qLen, qTupleC, qListC, qMax2, qMin2, qIntC, qSum, qAny, qAll, qIsi, tyName, qAdd, qSub, qMul, qFdiv, qMod, qPow, qI2, qCmpI, qEq, qNe, qLt, qLe, qGt, qGe, qNeg, qIx, qDGet, qDIn, qDPut, qSl, qPart, qNoPart, qNext, qFor, qiSeq, qiRng1, qiRng2, qiZip, qiEnum, qLc, seqSrc, lsrc, titems, litems, sitems, fz, newL, List.getElem?_cons_zero, List.getElem?_cons_succ, List.set_cons_zero, List.set_cons_succ, if_true, if_false, Bool.false_eq_true, ite_true, ite_false, up_same, reduceIte, decide_true, decide_false, true_and, and_true, eqv_int, eqv_bool, eqv_TI, eqv_LI, eqv_TT, eqv_LT, eqv_nilL, eqv_nilT, shaped_TI, shaped_LI, shaped_TT, shaped_LT, shaped_int, shaped_bool, shaped_nilL, shaped_nilT, dints_map2, dbools_map2, datas_map, mkT_map, mkT_0, mkT_1, mkT_2, mkT_3, List.length_map, List.length_cons, List.length_nil, List.length_append, List.map_cons, List.map_nil, wipeD, Bool.not_true, Bool.not_false, eq_self, not_true_eq_false, not_false_eq_true, kitB_tt, kitB_ll, kitB_dd, kitB_bb, kitB_ib, kitB_ii, kitB_ss, kitB_tl, kitB_lt, Function.comp, datas, Option.map_some, List.cons_append, List.nil_append, CPow, le_size4, Int.toNat_natCast, rngD0, I_eq, Bo_eq, BS.qSortB, in_IT, in_IL, in_TT, in_TL, qNotN, qIsN, qSortD, qListRg, qDispT, keyX_TI, qGet, qiItems, qLockE, qLockS, qPop, qMaxDf, qLPut, qDNew, qListItems, qListDK, qLc2, qMax1, qMin1, qAppend, qExtend, tints_TI, dv_TI, Option.bind_some, qRetN, atI_0, atI_1, atI_2, mk_appT, mk_snocI, idl, rep_I, Option.map_none, eqv_idl, shaped_idl, Bool.and_self, Bool.true_and, Bool.and_true]))
local macro_rules | `(tactic| walk_at "F") => `(tactic| (try simp only [qAsg, qRet, qDrop, qIfS, qTest, qAndT, qOrT, qNotT, qAndV, qOrV, qNotV, qIf, qOp, qUn, qChain, onB, qv, qc, qgN, qgT, qgCons, qgNil, qCons, qNil, qTup, qLst, qPar, qPar3, qAug, qCB, qCall, qLen, qTupleC, qListC, qMax2, qMin2, qIntC, qSum, qAny, qAll, qIsi, tyName, qAdd, qSub, qMul, qFdiv, qMod, qPow, qI2, qCmpI, qEq, qNe, qLt, qLe, qGt, qGe, qNeg, qIx, qDGet, qDIn, qDPut, qSl, qPart, qNoPart, qNext, qFor, qiRng1, qiRng2, qiZip, qiEnum, qLc, fz, newL, List.getElem?_cons_zero, List.getElem?_cons_succ, List.set_cons_zero, List.set_cons_succ, if_true, if_false, Bool.false_eq_true, ite_true, ite_false, up_same, reduceIte, decide_true, decide_false, true_and, and_true, eqv_int, eqv_bool, eqv_TI, eqv_LI, eqv_TT, eqv_LT, eqv_nilL, eqv_nilT, shaped_TI, shaped_LI, shaped_TT, shaped_LT, shaped_int, shaped_bool, shaped_nilL, shaped_nilT, dints_map2, dbools_map2, datas_map, mkT_map, mkT_0, mkT_1, mkT_2, mkT_3, List.length_map, List.length_cons, List.length_nil, List.length_append, List.map_cons, List.map_nil, wipeD, Bool.not_true, Bool.not_false, eq_self, not_true_eq_false, not_false_eq_true, kitB_tt, kitB_ll, kitB_dd, kitB_bb, kitB_ib, kitB_ii, kitB_ss, kitB_tl, kitB_lt, Function.comp, datas, Option.map_some, List.cons_append, List.nil_append, CPow, le_size4, Int.toNat_natCast, rngD0, I_eq, Bo_eq, BS.qSortB, in_IT, in_IL, in_TT, in_TL, qNotN, qIsN, qSortD, qListRg, qDispT, keyX_TI, qGet, qiItems, qLockE, qLockS, qPop, qMaxDf, qLPut, qDNew, qListItems, qListDK, qLc2, qMax1, qMin1, qAppend, qExtend, tints_TI, dv_TI, Option.bind_some, qRetN, atI_0, atI_1, atI_2, mk_appT, mk_snocI, idl, rep_I, Option.map_none, eqv_idl, shaped_idl, Bool.and_self, Bool.true_and, Bool.and_true]))
namespace UC
open PySem L2 DL RD CpComb
theorem comb_dv (f : List Int) (r : Nat) : (combL ((f.map PyData.int).map DV.d) r).map mkT = (combL f r).map fun c => DV.d (TI c) := by
  rw [List.map_map, combL_map, List.map_map]
  refine List.map_congr_left fun c _ => ?_
  show mkT (c.map (DV.d ∘ PyData.int)) = _
  rw [← List.map_map, mkT_map]
theorem len_combL : ∀ (f : List Int) (r : Nat), (combL f r).length ≤ 2 ^ f.length
  | f, 0 => by rw [combL_zero]; exact Nat.one_le_two_pow
  | [], r + 1 => Nat.zero_le _
  | x :: f, r + 1 => by
    rw [combL, List.length_append, List.length_map, List.length_cons, Nat.pow_succ]
    have := len_combL f r
    have := len_combL f (r + 1)
    omega
theorem nodup_rngI (v : Nat) : (rangeI v).Nodup := List.Pairwise.imp (fun h => by omega) (asc_rngV v)
theorem rng_dv (v : Nat) : (List.range v).map (fun (j : Nat) => DV.d (.int (j : Int))) = ((rangeI v).map PyData.int).map DV.d := by
  rw [List.map_map, List.map_map]
  rfl
end UC
end
section
set_option linter.all false
set_option maxRecDepth 100000
set_option maxHeartbeats 1000000
open PySem L2 DL RD UC
local macro_rules | `(tactic| walk_at "E") => `(tactic| (try simp only [qAsg, qRet, qDrop, qIfS, qTest, qAndT, qOrT, qNotT, qAndV, qOrV, qNotV, qIf, qOp, qUn, qChain, onB, qv, qc, qgN, qgT, qgCons, qgNil, qCons, qNil, qTup, qLst, qPar, qPar3, qAug, qCB, qCall, qLen, qTupleC, qListC, qMax2, qMin2, qIntC, qSum, qAny, qAll, qIsi, tyName, qAdd, qSub, qMul, qFdiv, qMod, qPow, qI2, qCmpI, qEq, qNe, qLt, qLe, qGt, qGe, qNeg, qIx, qDGet, qDIn, qDPut, qSl, qPart, qNoPart, qNext, qFor, qiSeq, qiRng1, qiRng2, qiZip, qiEnum, qLc, seqSrc, lsrc, titems, litems, sitems, fz, newL, List.getElem?_cons_zero, List.getElem?_cons_succ, List.set_cons_zero, List.set_cons_succ, if_true, if_false, Bool.false_eq_true, ite_true, ite_false, up_same, reduceIte, decide_true, decide_false, true_and, and_true]))
local macro_rules | `(tactic| walk_at "D") => `(tactic| (try simp only [qAsg, qRet, qDrop, qIfS, qTest, qAndT, qOrT, qNotT, qAndV, qOrV, qNotV, qIf, qOp, qUn, qChain, onB, qv, qc, qgN, qgT, qgCons, qgNil, qCons, qNil, qTup, qLst, qPar, qPar3, qAug, qCB, qCall, qLen, qTupleC, qListC, qMax2, qMin2, qIntC, qSum, qAny, qAll, qIsi, tyName, qAdd, qSub, qMul, qFdiv, qMod, qPow, qI2, qCmpI, qEq, qNe, qLt, qLe, qGt, qGe, qNeg, qIx, qDGet, qDIn, qDPut, qSl, qPart, qNoPart, qNext, qFor, qiSeq, qiRng1, qiRng2, qiZip, qiEnum, qLc, seqSrc, lsrc, titems, litems, sitems, fz, newL, List.getElem?_cons_zero, List.getElem?_cons_succ, List.set_cons_zero, List.set_cons_succ, if_true, if_false, Bool.false_eq_true, ite_true, ite_false, up_same, reduceIte, decide_true, decide_false, true_and, and_true, eqv_int, eqv_bool, eqv_TI, eqv_LI, eqv_TT, eqv_LT, eqv_nilL, eqv_nilT, shaped_TI, shaped_LI, shaped_TT, shaped_LT, shaped_int, shaped_bool, shaped_nilL, shaped_nilT, dints_map2, dbools_map2, datas_map, mkT_map, mkT_0, mkT_1, mkT_2, mkT_3, List.length_map, List.length_cons, List.length_nil, List.length_append, List.map_cons, List.map_nil, wipeD, Bool.not_true, Bool.not_false, eq_self, not_true_eq_false, not_false_eq_true, kitB_tt, kitB_ll, kitB_dd, kitB_bb, kitB_ib, kitB_ii, kitB_ss, kitB_tl, kitB_lt, Function.comp, datas, Option.map_some, List.cons_append, List.nil_append, CPow, le_size4, Int.toNat_natCast, rngD0, I_eq, Bo_eq, BS.qSortB, in_IT, in_IL, in_TT, in_TL, qNotN, qIsN, qSortD, qListRg, qDispT, keyX_TI, qGet, qiItems, qLockE, qLockS, qPop, qMaxDf, qLPut, qDNew, qListItems, qListDK, qLc2, qMax1, qMin1, qAppend, qExtend, tints_TI, dv_TI, Option.bind_some, qRetN, atI_0, atI_1, atI_2, mk_appT, mk_snocI, idl, rep_I, Option.map_none, eqv_idl, shaped_idl, Bool.and_self, Bool.true_and, Bool.and_true]))
local macro_rules | `(tactic| walk_at "F") => `(tactic| (try simp only [qAsg, qRet, qDrop, qIfS, qTest, qAndT, qOrT, qNotT, qAndV, qOrV, qNotV, qIf, qOp, qUn, qChain, onB, qv, qc, qgN, qgT, qgCons, qgNil, qCons, qNil, qTup, qLst, qPar, qPar3, qAug, qCB, qCall, qLen, qTupleC, qListC, qMax2, qMin2, qIntC, qSum, qAny, qAll, qIsi, tyName, qAdd, qSub, qMul, qFdiv, qMod, qPow, qI2, qCmpI, qEq, qNe, qLt, qLe, qGt, qGe, qNeg, qIx, qDGet, qDIn, qDPut, qSl, qPart, qNoPart, qNext, qFor, qiRng1, qiRng2, qiZip, qiEnum, qLc, fz, newL, List.getElem?_cons_zero, List.getElem?_cons_succ, List.set_cons_zero, List.set_cons_succ, if_true, if_false, Bool.false_eq_true, ite_true, ite_false, up_same, reduceIte, decide_true, decide_false, true_and, and_true, eqv_int, eqv_bool, eqv_TI, eqv_LI, eqv_TT, eqv_LT, eqv_nilL, eqv_nilT, shaped_TI, shaped_LI, shaped_TT, shaped_LT, shaped_int, shaped_bool, shaped_nilL, shaped_nilT, dints_map2, dbools_map2, datas_map, mkT_map, mkT_0, mkT_1, mkT_2, mkT_3, List.length_map, List.length_cons, List.length_nil, List.length_append, List.map_cons, List.map_nil, wipeD, Bool.not_true, Bool.not_false, eq_self, not_true_eq_false, not_false_eq_true, kitB_tt, kitB_ll, kitB_dd, kitB_bb, kitB_ib, kitB_ii, kitB_ss, kitB_tl, kitB_lt, Function.comp, datas, Option.map_some, List.cons_append, List.nil_append, CPow, le_size4, Int.toNat_natCast, rngD0, I_eq, Bo_eq, BS.qSortB, in_IT, in_IL, in_TT, in_TL, qNotN, qIsN, qSortD, qListRg, qDispT, keyX_TI, qGet, qiItems, qLockE, qLockS, qPop, qMaxDf, qLPut, qDNew, qListItems, qListDK, qLc2, qMax1, qMin1, qAppend, qExtend, tints_TI, dv_TI, Option.bind_some, qRetN, atI_0, atI_1, atI_2, mk_appT, mk_snocI, idl, rep_I, Option.map_none, eqv_idl, shaped_idl, Bool.and_self, Bool.true_and, Bool.and_true]))
namespace UC
open PySem L2 DL RD CpComb
theorem sortI_eqL {L M : List Int} (nd : L.Nodup) (hM : M.Pairwise (· < ·)) (h : ∀ x, x ∈ L ↔ x ∈ M) : (L.mergeSort fun a b => decide (a ≤ b)) = M := by
  have hp : (L.mergeSort fun a b => decide (a ≤ b)).Pairwise (fun a b => decide (a ≤ b) = true) := List.pairwise_mergeSort (fun a b c h1 h2 => by simp only [decide_eq_true_eq] at *; omega) (fun a b => by simp only [Bool.or_eq_true, decide_eq_true_eq]; omega) L
  have nd1 : (L.mergeSort fun a b => decide (a ≤ b)).Nodup := (List.mergeSort_perm _ _).nodup_iff.mpr nd
  have nd2 : M.Nodup := List.Pairwise.imp (fun h => by omega) hM
  have pm : (L.mergeSort fun a b => decide (a ≤ b)).Perm M := (List.perm_ext_iff_of_nodup nd1 nd2).mpr fun x => by rw [(List.mergeSort_perm _ _).mem_iff]; exact h x
  exact pm.eq_of_pairwise (le := fun a b => decide (a ≤ b)) (fun a b _ _ h1 h2 => by simp only [decide_eq_true_eq] at *; omega) hp (List.Pairwise.imp (fun h => by simp only [decide_eq_true_eq]; omega) hM)
theorem srt_is {L : List Int} (nd : L.Nodup) : (L.mergeSort fun a b => decide (a ≤ b)) = sortIU L := sortI_eqL nd (asc_sortIU L) fun x => mem_sortIU.symm
def lookT (l : List (List Int × DV)) (b : List Int) : Option DV := (l.find? fun p => decide (p.1 = b)).map (·.2)
theorem dlook_tab (l : List (List Int × DV)) (b : List Int) : dlook (some (.dT (tabD l))) (.d (TI b)) = some (lookT l b) := by
  show (match titems (.d (TI b)) with | some ys => (keyT ys).map fun q => lookD (tabD l) q | none => none) = _
  rw [show titems (.d (TI b)) = some ((b.map PyData.int).map DV.d) from rfl]
  show ((keyT ((b.map PyData.int).map DV.d)).map fun q => lookD (tabD l) q) = _
  rw [keyT_ints]
  show some (lookD (tabD l) (b.map Sum.inl)) = _
  unfold lookD lookT tabD
  rw [List.find?_map, Option.map_map]
  have e : ((fun kv : List Key × DV => decide (kv.1 = b.map Sum.inl)) ∘ fun p : List Int × DV => ((p.1.map Sum.inl : List Key), p.2)) = fun p : List Int × DV => decide (p.1 = b) := funext fun p => dec_inl p.1 b
  rw [e]
  rfl
theorem lookT_put (l : List (List Int × DV)) (a b : List Int) (v : DV) : lookT (putT l a v) b = if b = a then some v else lookT l b := by
  unfold putT
  split
  · rename_i h
    have hex : ∃ p ∈ l, p.1 = a := by
      obtain ⟨p, hp, e⟩ := List.any_eq_true.mp h
      exact ⟨p, hp, of_decide_eq_true e⟩
    clear h
    have key : ∀ l : List (List Int × DV), lookT (l.map fun p => if p.1 = a then (p.1, v) else p) b = if b = a then (if (∃ p ∈ l, p.1 = a) then some v else none) else lookT l b := by
      intro l
      induction l with
      | nil => unfold lookT; simp
      | cons p l ih =>
        unfold lookT at ih ⊢
        rw [List.map_cons, List.find?_cons]
        by_cases c : p.1 = a
        · rw [if_pos c]
          by_cases d : b = a
          · rw [if_pos d, if_pos ⟨p, List.mem_cons_self, c⟩]
            show (match decide (p.1 = b) with | true => some (p.1, v) | false => _).map (fun (q : List Int × DV) => q.2) = _
            rw [decide_eq_true (c.trans d.symm)]
            rfl
          · rw [if_neg d]
            show (match decide (p.1 = b) with | true => some (p.1, v) | false => _).map (fun (q : List Int × DV) => q.2) = _
            have hpb : ¬ p.1 = b := fun z => d (z.symm.trans c)
            rw [decide_eq_false hpb, List.find?_cons, decide_eq_false hpb]
            rw [if_neg d] at ih
            exact ih
        · rw [if_neg c]
          by_cases e : p.1 = b
          · have d : ¬ b = a := fun z => c (e.trans z)
            rw [if_neg d, decide_eq_true e, List.find?_cons, decide_eq_true e]
          · rw [decide_eq_false e, List.find?_cons, decide_eq_false e]
            have hiff : (∃ q ∈ p :: l, q.1 = a) ↔ ∃ q ∈ l, q.1 = a := by simp [c]
            simp only [hiff]
            exact ih
    rw [key l, if_pos hex]
  · rename_i h
    unfold lookT
    rw [List.find?_append]
    by_cases d : b = a
    · rw [if_pos d]
      have : l.find? (fun p => decide (p.1 = b)) = none := List.find?_eq_none.mpr fun p hp z => h (List.any_eq_true.mpr ⟨p, hp, by rw [← d]; exact z⟩)
      rw [this, d]
      simp
    · rw [if_neg d]
      have hab : ¬ a = b := fun z => d z.symm
      cases e : l.find? (fun p => decide (p.1 = b)) with
      | some q => rfl
      | none =>
        simp [hab]
theorem len_putL (l : List (List Int × DV)) (a : List Int) (v : DV) : (putT l a v).length ≤ l.length + 1 := by
  unfold putT
  split
  · rw [List.length_map]; omega
  · rw [List.length_append, List.length_singleton]; exact Nat.le_refl _
def lotsN (c : Nat) (n : Nat) : List (List Int) := (List.range n).flatMap fun i => combL (rangeI c) (c - i)
theorem lots_succ (c n : Nat) : lotsN c (n + 1) = lotsN c n ++ combL (rangeI c) (c - n) := by
  unfold lotsN
  rw [List.range_succ, List.flatMap_append]
  simp
theorem len_comb2 (c r : Nat) : (combL (rangeI c) r).length ≤ 2 ^ c := by
  have := len_combL (rangeI c) r
  rwa [List.length_map, List.length_range] at this
theorem len_lots (c : Nat) : ∀ n, (lotsN c n).length ≤ 2 ^ c * n
  | 0 => Nat.zero_le _
  | n + 1 => by
    rw [lots_succ, List.length_append, Nat.mul_succ]
    have := len_lots c n
    have := len_comb2 c (c - n)
    omega
theorem mem_lots {c : Nat} {u : List Int} : u ∈ lotsN c (c + 1) ↔ Asc u ∧ Low c u := by
  unfold lotsN
  rw [List.mem_flatMap]
  constructor
  · rintro ⟨i, _, h⟩
    obtain ⟨h1, _⟩ := mem_combL.mp h
    exact ⟨(asc_rngV c).sublist h1, fun x hx => mem_rngV.mp (h1.subset hx)⟩
  · rintro ⟨h1, h2⟩
    have hl := asc_long h1 h2
    exact ⟨c - u.length, List.mem_range.mpr (by omega), mem_combL.mpr ⟨asc_sub h1 (asc_rngV c) fun x hx => mem_rngV.mpr (h2 x hx), by omega⟩⟩
theorem lots_down (c : Nat) : ∀ n, n ≤ c + 1 → (lotsN c n).Pairwise (fun a b => b.length ≤ a.length) ∧ ∀ u ∈ lotsN c n, c < u.length + n
  | 0, _ => ⟨List.Pairwise.nil, fun u h => (nomatch h)⟩
  | n + 1, hn => by
    obtain ⟨h1, h2⟩ := lots_down c n (by omega)
    rw [lots_succ]
    refine ⟨List.pairwise_append.mpr ⟨h1, ?_, fun a ha b hb => ?_⟩, fun u hu => ?_⟩
    · refine List.Pairwise.imp_of_mem (R := fun _ _ => True) (fun {a b} ha hb _ => ?_) (List.pairwise_of_forall fun _ _ => trivial)
      rw [(mem_combL.mp ha).2, (mem_combL.mp hb).2]
      exact Nat.le_refl _
    · have := h2 a ha
      rw [(mem_combL.mp hb).2]
      omega
    · rcases List.mem_append.mp hu with z | z
      · have := h2 u z
        omega
      · rw [(mem_combL.mp z).2]
        omega
theorem lots_ahead {c i : Nat} {lot u : List Int} (hi : (lotsN c (c + 1))[i]? = some lot) (hu : u ∈ lotsN c (c + 1)) (hl : lot.length < u.length) : u ∈ (lotsN c (c + 1)).take i := by
  obtain ⟨j, hj, e⟩ := List.mem_iff_getElem.mp hu
  obtain ⟨hi', e'⟩ := List.getElem?_eq_some_iff.mp hi
  have P := List.pairwise_iff_getElem.mp (lots_down c (c + 1) (Nat.le_refl _)).1
  rcases Nat.lt_trichotomy j i with z | z | z
  · refine List.mem_of_getElem? (i := j) ?_
    rw [List.getElem?_take_of_lt z, List.getElem?_eq_getElem hj, e]
  · subst z
    rw [e] at e'
    rw [e'] at hl
    exact absurd hl (Nat.lt_irrefl _)
  · have := P i j hi' hj z
    rw [e, e'] at this
    omega
def sp_lots_of : SpD := fun xs st Q => ∃ c : Nat, xs = [I c] ∧ c ≤ 7 ∧ ∀ (q : Addr) st', st q = none → st' q = some (.lst (((lotsN c (c + 1)).map TI).map .d)) → (∀ b, b ≠ q → st' b = st b) → Q (.r q) st'
theorem len_lots_of : ∀ xs st Q, sp_lots_of xs st Q → xs.length = 1 := by rintro xs st Q ⟨c, rfl, _⟩; rfl
theorem pow7 {c : Nat} (h : c ≤ 7) : 2 ^ c ≤ 128 := Nat.le_trans (Nat.pow_le_pow_right (by decide) h) (by decide)
theorem sem_lots_of : ∀ xs st Q, sp_lots_of xs st Q → rd_lots_of { nx := fun _ st' => Fg Q (.d .none) st', rt := Fg Q } (startD 3 xs) st := by
  rintro xs st Q ⟨c, rfl, h7, K⟩
  have e0 : startD 3 [I c] = [some (I c), none, none] := rfl
  rw [e0]
  unfold rd_lots_of
  have p7 := pow7 h7
  refine seq fun N hN => ?_
  walk_at "D"
  refine ⟨by decide, fun p hp => hN _ _ ?_⟩; clear hN N
  refine seq fun N hN => ?_
  walk_at "F"
  simp only [qiRng3]
  walk_at "D"
  refine ⟨⟨by omega, by omega, by decide, by decide⟩, ?_⟩
  unfold rngDn
  rw [show ((c : Int) - -1).toNat = c + 1 by omega]
  refine for_byT _ (fun i ε s => (∃ y2, ε = [some (I c), some (.r p), y2]) ∧ s p = some (.lst (((lotsN c i).map TI).map .d)) ∧ ∀ b, b ≠ p → s b = st b) ⟨⟨_, rfl⟩, up_same, fun b hb => up_ne hb⟩ (fun _ _ _ _ => trivial) ?_ ?_
  · rintro i k ε s hi ⟨⟨y2, rfl⟩, hs, fr⟩ L hL
    obtain ⟨rfl, hin⟩ := range_some hi
    have hln := len_lots c k
    have h1 := len_comb2 c (c - k)
    have hmul : 2 ^ c * k ≤ 128 * 8 := Nat.mul_le_mul p7 (by omega)
    obtain ⟨m, hm, hmk⟩ : ∃ m : Nat, (c : Int) - (k : Int) = (m : Int) ∧ m = c - k := ⟨c - k, by omega, rfl⟩
    walk_at "D"
    rw [hm]
    refine ⟨⟨_, hs⟩, ?_⟩
    simp only [qListCR]
    walk_at "D"
    have er : (combL (((rangeI c).map PyData.int).map DV.d) m).map mkT = ((combL (rangeI c) m).map TI).map .d := by
      rw [comb_dv, List.map_map]
      rfl
    rw [rng_dv]
    refine ⟨⟨by omega, by omega⟩, ⟨by omega, by omega⟩, by rw [len_comb (ys := rangeI c) m (by rw [List.length_map, List.length_map]), hmk, sizeL]; omega, ?_⟩
    rw [er]
    walk_at "D"
    refine ⟨_, _, hs, rfl, by simp only [List.length_map, sizeL]; rw [hmk]; omega, hL _ _ ⟨⟨_, rfl⟩, ?_, fun b hb => by rw [up_ne hb]; exact fr b hb⟩⟩
    rw [up_same, lots_succ, ← hmk, List.map_append, List.map_append]
  · rintro ε s ⟨⟨y2, rfl⟩, hs, fr⟩
    rw [List.length_range] at hs
    refine hN _ _ ?_
    walk_at "D"
    exact fg_ret (K p s hp hs fr)
def optD : Option (List Int) → DV
  | none => .d .none
  | some r => .d (TI r)
def sp_least_listing : SpD := fun xs st Q => ∃ (c : Nat) (fol : Fol) (a : Addr) (l : List (List Int × DV)), xs = [I c, .r a] ∧ c ≤ 7 ∧ FolS fol ∧ st a = some (.dT (tabD l)) ∧ (∀ u, Asc u → Low c u → lookT l u = some (.d (LI (stF c fol u)))) ∧
  Q (optD (grd c fol c [])) st
theorem len_least_listing : ∀ xs st Q, sp_least_listing xs st Q → xs.length = 2 := by rintro xs st Q ⟨c, fol, a, l, rfl, _⟩; rfl
theorem asc_snocU {u : List Int} {c : Nat} {x : Int} (h1 : Asc u) (h2 : Low c u) (hx : (0 ≤ x ∧ x < (c : Int)) ∧ x ∉ u) : Asc (sortIU (u ++ [x])) ∧ Low c (sortIU (u ++ [x])) ∧ (sortIU (u ++ [x])).length = u.length + 1 ∧ ((u ++ [x]).mergeSort fun a b => decide (a ≤ b)) = sortIU (u ++ [x]) := by
  have nd : (u ++ [x]).Nodup := by
    rw [List.nodup_append]
    refine ⟨List.Pairwise.imp (fun h => by omega) h1, by simp, fun a ha b hb e => ?_⟩
    rw [List.mem_singleton.mp hb] at e
    exact hx.2 (e ▸ ha)
  have e := srt_is nd
  refine ⟨asc_sortIU _, fun y hy => ?_, ?_, e⟩
  · rcases List.mem_append.mp (mem_sortIU.mp hy) with z | z
    · exact h2 y z
    · rw [List.mem_singleton.mp z]
      exact hx.1
  · rw [← e, List.length_mergeSort, List.length_append]
    rfl
theorem sem_least_listing : ∀ xs st Q, sp_least_listing xs st Q → rd_least_listing sp_lots_of { nx := fun _ st' => Fg Q (.d .none) st', rt := Fg Q } (startD 7 xs) st := by
  rintro xs st Q ⟨c, fol, a, l, rfl, h7, hf, hst, hl, K⟩
  have e0 : startD 7 [I c, .r a] = [some (I c), some (.r a), none, none, none, none, none] := rfl
  rw [e0]
  unfold rd_least_listing
  have p7 := pow7 h7
  refine seq fun N hN => ?_
  walk_at "D"
  refine fun p hp => hN _ _ ?_; clear hN N
  have hap : a ≠ p := fun e => by rw [← e, hst] at hp; cases hp
  refine seq fun N hN => ?_
  walk_at "D"
  refine ⟨c, rfl, h7, fun q s1 hq hs1 fr1 => ?_⟩
  have hqp : q ≠ p := fun e => by rw [e, up_same] at hq; cases hq
  have hqa : q ≠ a := fun e => by rw [e, up_ne hap, hst] at hq; cases hq
  have hp1 : s1 p = some (.dT (tabD [])) := by rw [fr1 p (Ne.symm hqp)]; exact up_same
  have ha1 : s1 a = some (.dT (tabD l)) := by rw [fr1 a (Ne.symm hqa), up_ne hap]; exact hst
  have hle1 : Le st s1 := fun b m e => by
    have h1 : b ≠ p := fun z => by rw [z, hp] at e; cases e
    have h2 : b ≠ q := fun z => by rw [z] at e; rw [up_ne hqp] at hq; rw [hq] at e; cases e
    rw [fr1 b h2, up_ne h1]
    exact e
  have hln : (lotsN c (c + 1)).length ≤ 128 * 8 := Nat.le_trans (len_lots c (c + 1)) (Nat.mul_le_mul p7 (by omega))
  walk_at "D"
  simp only [hs1]
  rw [TIs_dv]
  refine for_byT _ (fun i ε s => (∃ y3 y5, ε = [some (I c), some (.r a), some (.r p), y3, none, y5, none]) ∧ (∀ b, b ≠ p → s b = s1 b) ∧ ∃ t : List (List Int × DV), s p = some (.dT (tabD t)) ∧ t.length ≤ i ∧ ∀ u ∈ (lotsN c (c + 1)).take i, lookT t u = some (Bo (canF c fol (c - u.length) u))) ⟨⟨_, _, rfl⟩, fun b hb => rfl, [], hp1, Nat.zero_le _, fun u h => by rw [List.take_zero] at h; cases h⟩ (fun i ε s h => by
    show s q = _
    rw [h.2.1 q hqp, hs1, TIs_dv]) ?_ ?_
  · rintro i lot ε s hi ⟨⟨y3, y5, rfl⟩, fr, t, ht, htl, hall⟩ L hL
    obtain ⟨hi', _⟩ := List.getElem?_eq_some_iff.mp hi
    obtain ⟨u1, u2⟩ := mem_lots.mp (List.mem_of_getElem? hi)
    have ul := asc_long u1 u2
    have ha' : s a = some (.dT (tabD l)) := by rw [fr a hap]; exact ha1
    have fin : ∀ y5, L [some (I c), some (.r a), some (.r p), some (.d (TI lot)), none, y5, none] (up s p (.dT (tabD (putT t lot (Bo (canF c fol (c - lot.length) lot)))))) := fun y5 => by
      refine hL _ _ ⟨⟨_, _, rfl⟩, fun b hb => by rw [up_ne hb]; exact fr b hb, _, up_same, Nat.le_trans (len_putL _ _ _) (by omega), fun u hu => ?_⟩
      rw [lookT_put]
      by_cases e : u = lot
      · rw [if_pos e, e]
      · rw [if_neg e]
        rw [List.take_succ, hi] at hu
        rcases List.mem_append.mp hu with z | z
        · exact hall u z
        · exact absurd (by simpa using z) e
    walk_at "D"
    by_cases cl : lot.length = c
    · simp only [show ((lot.length : Int) = (c : Int)) = True from by simp [cl], decide_true, if_true]
      walk_at "D"
      simp only [ht, dput_tab t lot (Bo true) (show t.length < sizeLine by rw [sizeL]; omega)]
      have : canF c fol (c - lot.length) lot = true := by rw [cl, Nat.sub_self]; rfl
      rw [this] at fin
      exact fin _
    · obtain ⟨k, hk⟩ : ∃ k, c - lot.length = k + 1 := ⟨c - lot.length - 1, by omega⟩
      simp only [show ((lot.length : Int) = (c : Int)) = False from by simp only [eq_iff_iff, iff_false]; omega, decide_false, Bool.false_eq_true, if_false]
      have hlk := hl lot u1 u2
      have hsl : (stF c fol lot).length ≤ c := Nat.le_trans (List.length_filter_le _ _) (by rw [List.length_map, List.length_range]; exact Nat.le_refl _)
      walk_at "D"
      simp only [ha', dlook_tab, hlk]
      walk_at "D"
      refine ⟨by rw [sizeL]; omega, ?_⟩
      rw [List.map_map]
      refine comp_mapT _ (fun x => Bo (canF c fol k (lot ++ [x]))) trivial _ _ ?_ ?_
      · intro x hx Q1 h
        obtain ⟨n1, n2, n3, n4⟩ := asc_snocU u1 u2 (mem_stF.mp hx).1
        have hlook := hall _ (lots_ahead hi (mem_lots.mpr ⟨n1, n2⟩) (by rw [n3]; exact Nat.lt_succ_self _))
        rw [n3, show c - (lot.length + 1) = k by omega, canF_set hf k (q := lot ++ [x]) fun y => mem_sortIU] at hlook
        walk_at "D"
        simp only [qSortTI]
        walk_at "D"
        refine ⟨by decide, by rw [sizeL]; omega, by omega, ?_⟩
        rw [n4, show (sortIU (lot ++ [x])).map (fun i => DV.d (PyData.int i)) = ((sortIU (lot ++ [x])).map PyData.int).map .d by rw [List.map_map]; rfl, datas_map]
        show (match dlook (s p) (.d (TI (sortIU (lot ++ [x])))) with | some (some z) => Q1 z s | _ => False)
        rw [ht, dlook_tab, hlook]
        exact h
      · rw [show ([] : List DV) ++ (stF c fol lot).map (fun x => Bo (canF c fol k (lot ++ [x]))) = (((stF c fol lot).map fun x => canF c fol k (lot ++ [x])).map PyData.bool).map .d by rw [List.nil_append, List.map_map, List.map_map]; rfl]
        walk_at "D"
        have ea : ((stF c fol lot).map fun x => canF c fol k (lot ++ [x])).any id = canF c fol (c - lot.length) lot := by
          rw [hk, List.any_map]
          rfl
        rw [ea]
        simp only [ht, dput_tab t lot (Bo (canF c fol (c - lot.length) lot)) (show t.length < sizeLine by rw [sizeL]; omega)]
        exact fin _
  · rintro ε s ⟨⟨y3, y5, rfl⟩, fr, t, ht, htl, hall⟩
    rw [List.take_length] at hall
    refine hN _ _ ?_; clear hN N
    have look : ∀ u, Asc u → Low c u → lookT t u = some (Bo (canF c fol (c - u.length) u)) := fun u h1 h2 => hall u (mem_lots.mpr ⟨h1, h2⟩)
    have ha' : s a = some (.dT (tabD l)) := by rw [fr a hap]; exact ha1
    have les : Le st s := fun b m e => by
      have h1 : b ≠ p := fun z => by rw [z, hp] at e; cases e
      rw [fr b h1]
      exact hle1 b m e
    clear hall fr hs1 fr1 hle1
    have l0 := look [] List.Pairwise.nil (fun x h => (nomatch h))
    rw [show c - ([] : List Int).length = c from rfl, ← grd_some] at l0
    refine seq fun N hN => ?_
    walk_at "D"
    have d0 : dlook (s p) (.d (.tuple [])) = some (some (Bo (grd c fol c []).isSome)) := by
      rw [ht]
      show dlook (some (.dT (tabD t))) (.d (TI [])) = _
      rw [dlook_tab, l0]
    simp only [d0]
    cases eg : grd c fol c [] with
    | none =>
      rw [eg] at K
      walk_at "D"
      exact ⟨by decide, fg_le les K⟩
    | some res =>
      rw [eg] at K
      walk_at "D"
      refine ⟨by decide, ?_⟩
      simp only [Option.isSome_some, Bool.not_true, Bool.false_eq_true, if_false]
      refine hN _ _ ?_; clear hN N
      refine seq fun N hN => ?_
      walk_at "D"
      refine ⟨by decide, by decide, by decide, hN _ _ ?_⟩; clear hN N
      refine seq fun N hN => ?_
      refine ⟨fun m ε s' => s' = s ∧ ∃ (pf r : List Int) (y5 y6 : Option DV), ε = [some (I c), some (.r a), some (.r p), some (.d (TI (sortIU pf))), some (.d (TI pf)), y5, none] ∧ pf.length + m = c ∧ grd c fol m pf = some r ∧ res = pf ++ r ∧ pf.Nodup ∧ Low c pf, ⟨c, rfl, [], res, _, none, rfl, Nat.zero_add _, eg, rfl, List.nodup_nil, fun x h => (nomatch h)⟩, ?_⟩
      rintro m ε s' ⟨rfl, pf, r, y5, y6, rfl, hm, hg, hres, nd, hlow⟩
      have hlp : (sortIU pf).length = pf.length := by rw [← srt_is nd, List.length_mergeSort]
      walk_at "D"
      cases m with
      | zero =>
        cases hg
        rw [List.append_nil] at hres
        simp only [show ((sortIU pf).length : Int) < (c : Int) ↔ False from by simp only [iff_false]; omega, decide_false, Bool.false_eq_true, if_false]
        refine hN _ _ ?_
        walk_at "D"
        rw [hres] at K
        exact fg_le les K
      | succ k =>
        obtain ⟨x, r', hx, rfl, hg'⟩ := grd_step hg
        have a1 := asc_sortIU pf
        have a2 : Low c (sortIU pf) := fun y hy => hlow y (mem_sortIU.mp hy)
        have hsl : (stF c fol (sortIU pf)).length ≤ c := Nat.le_trans (List.length_filter_le _ _) (by rw [List.length_map, List.length_range]; exact Nat.le_refl _)
        simp only [show ((sortIU pf).length : Int) < (c : Int) ↔ True from by simp only [iff_true]; omega, decide_true, if_true]
        refine seq fun N2 hN2 => ?_
        walk_at "D"
        simp only [ha', dlook_tab, hl (sortIU pf) a1 a2]
        walk_at "D"
        refine ⟨by rw [sizeL]; omega, ?_⟩
        rw [List.map_map]
        refine comp_fmT _ (fun x => canF c fol k (pf ++ [x])) (fun x => I x) trivial _ _ ?_ ?_
        · intro z hz Q1 Q2 h
          obtain ⟨n1, n2, n3, n4⟩ := asc_snocU a1 a2 (mem_stF.mp hz).1
          have hlook := look _ n1 n2
          rw [n3, hlp, show c - (pf.length + 1) = k by omega, canF_set hf k (q := pf ++ [z]) fun y => by rw [mem_sortIU, List.mem_append, mem_sortIU, List.mem_append]] at hlook
          walk_at "D"
          simp only [qSortTI]
          walk_at "D"
          refine ⟨by decide, by rw [sizeL]; omega, by omega, ?_⟩
          rw [n4, show (sortIU (sortIU pf ++ [z])).map (fun i => DV.d (PyData.int i)) = ((sortIU (sortIU pf ++ [z])).map PyData.int).map .d by rw [List.map_map]; rfl, datas_map]
          have hd : dlook (s' p) (.d (TI (sortIU (sortIU pf ++ [z])))) = some (some (Bo (canF c fol k (pf ++ [z])))) := by rw [ht, dlook_tab, hlook]
          simp only [hd]
          exact h
        · have es : stF c fol (sortIU pf) = stF c fol pf := stF_set hf fun y => mem_sortIU
          obtain ⟨xs, hxs⟩ : ∃ xs, (stF c fol pf).filter (fun x => canF c fol k (pf ++ [x])) = x :: xs := by
            cases e : (stF c fol pf).filter (fun x => canF c fol k (pf ++ [x])) with
            | nil => rw [e] at hx; cases hx
            | cons y ys => rw [e] at hx; cases hx; exact ⟨ys, rfl⟩
          rw [es, show ([] : List DV) ++ ((stF c fol pf).filter fun x => canF c fol k (pf ++ [x])).map (fun x => I x) = ((x :: xs).map PyData.int).map .d by rw [hxs, List.nil_append, List.map_map]; rfl, datas_map]
          -- rw [es, hxs, show ([] : List DV) ++ (x :: xs).map (fun x => I x) = ((x :: xs).map PyData.int).map .d by rw [List.nil_append, List.map_map]; rfl, datas_map]
          have a0 : atI (((x :: xs).map PyData.int).map DV.d) 0 = some (I x) := atI_nat (j := 0) rfl
          simp only [a0]
          refine hN2 _ _ ?_; clear hN2 N2
          have hxm0 : x ∈ (stF c fol pf).filter fun x => canF c fol k (pf ++ [x]) := by rw [hxs]; exact List.mem_cons_self
          have hxm := (mem_stF.mp (List.mem_filter.mp hxm0).1).1
          obtain ⟨n1, n2, n3, n4⟩ := asc_snocU a1 a2 (x := x) ⟨hxm.1, fun z => hxm.2 (mem_sortIU.mp z)⟩
          have es2 : sortIU (sortIU pf ++ [x]) = sortIU (pf ++ [x]) := asc_ext (asc_sortIU _) (asc_sortIU _) fun y => by rw [mem_sortIU, mem_sortIU, List.mem_append, List.mem_append, mem_sortIU]
          have hpl : pf.length ≤ c := by omega
          walk_at "D"
          simp only [qSortTI]
          walk_at "D"
          refine ⟨by decide, by rw [sizeL]; omega, by decide, by rw [sizeL]; omega, by omega, ?_⟩
          rw [n4, es2, show (sortIU (pf ++ [x])).map (fun i => DV.d (PyData.int i)) = ((sortIU (pf ++ [x])).map PyData.int).map .d by rw [List.map_map]; rfl, datas_map]
          refine ⟨by decide, k, Nat.lt_succ_self _, pf ++ [x], r', _, none, rfl, by rw [List.length_append, List.length_singleton]; omega, hg', by rw [hres, List.append_assoc]; rfl, ?_, fun y hy => ?_⟩
          · rw [List.nodup_append]
            refine ⟨nd, by simp, fun a ha b hb e => ?_⟩
            rw [List.mem_singleton.mp hb] at e
            exact hxm.2 (e ▸ ha)
          · rcases List.mem_append.mp hy with z | z
            · exact hlow y z
            · rw [List.mem_singleton.mp z]
              exact hxm.1
def stepV (c : Nat) (F : List (List Int)) : List (List Int) := F.flatMap fun p => (stp c p).map fun x => p ++ [x]
theorem pow5 {c j : Nat} (hc : c ≤ 5) (hj : j ≤ 5) : c ^ j ≤ 3125 := Nat.le_trans (Nat.pow_le_pow_left hc j) (Nat.le_trans (Nat.pow_le_pow_right (by decide) hj) (by decide))
def sp_law_listings : SpD := fun xs st Q => ∃ c : Nat, xs = [I c] ∧ c ≤ 5 ∧ ∀ (x : DV) st', Le st st' → (∀ a, x = .r a → st a = none) → sitems st' x = some (((lvl c c).map TI).map .d) → Q x st'
theorem len_law_listings : ∀ xs st Q, sp_law_listings xs st Q → xs.length = 1 := by rintro xs st Q ⟨c, rfl, _⟩; rfl
theorem sem_law_listings : ∀ xs st Q, sp_law_listings xs st Q → rd_law_listings { nx := fun _ st' => Fg Q (.d .none) st', rt := Fg Q } (startD 6 xs) st := by
  rintro xs st Q ⟨c, rfl, hc, K⟩
  have e0 : startD 6 [I c] = [some (I c), none, none, none, none, none] := rfl
  rw [e0]
  unfold rd_law_listings
  refine seq fun N hN => ?_
  walk_at "D"
  refine ⟨by decide, by decide, hN _ _ ?_⟩; clear hN N
  refine seq fun N hN => ?_
  walk_at "D"
  refine ⟨by omega, by omega, ?_⟩
  walk_at "D"
  refine for_byT _ (fun i ε s => Le st s ∧ i ≤ c ∧ ∃ (x : DV) (y2 y3 y4 : Option DV), ε = [some (I c), some x, y2, y3, y4, none] ∧ (∀ a, x = .r a → st a = none) ∧ sitems s x = some (((lvl c i).map TI).map .d))
    ⟨Le.refl _, Nat.zero_le _, .d (.list [.tuple []]), none, none, none, rfl, (fun a e => nomatch e), rfl⟩ (fun _ _ _ _ => trivial) ?_ ?_
  · rintro i k ε s hi ⟨le, hil, x, y2, y3, y4, rfl, _, hx⟩ L hL
    obtain ⟨rfl, hic⟩ := range_some hi
    have hnx : lvl c (k + 1) = stepV c (lvl c k) := rfl
    have hsz1 := Nat.le_trans (lvl_count c (k + 1)) (pow5 hc (by omega))
    have hF := len_lvl c k
    rw [hnx] at hsz1
    generalize lvl c k = F at hx hF hnx hsz1
    refine seq fun N hN => ?_
    walk_at "D"
    refine ⟨by decide, fun p hp => hN _ _ ?_⟩; clear hN N
    refine seq fun N hN => ?_
    walk_at "F"
    have hx2 := sitems_le hx (le_up1 (m := .lst []) hp)
    obtain ⟨inv, hsrc, hinv⟩ := src_of2 hx2
    simp only [qiSeq, qv, List.getElem?_cons_zero, List.getElem?_cons_succ, hsrc]
    rw [List.map_map]
    refine for_byT _ (fun j ε s' => Le s s' ∧ ∃ (y4 : Option DV), ε = [some (I c), some x, some (.d (.int (k : Int))), some (.r p), y4, none] ∧ s' p = some (.lst (((stepV c (F.take j)).map TI).map .d)))
      ⟨le_up1 hp, y4, rfl, up_same⟩ (fun _ _ s' h => hinv s' (sitems_le hx h.1)) ?_ ?_
    · rintro j q ε s' hq ⟨le', y4, rfl, hs'⟩ L2 hL2
      obtain ⟨q1, q2⟩ := hF q (List.mem_of_getElem? hq)
      have hsplit : stepV c (F.take (j + 1)) = stepV c (F.take j) ++ (stp c q).map fun x => q ++ [x] := by
        unfold stepV
        rw [List.take_succ, hq]
        simp
      have hlen : (stepV c (F.take (j + 1))).length ≤ 3125 := by
        refine Nat.le_trans ?_ hsz1
        have : stepV c F = stepV c (F.take (j + 1)) ++ stepV c (F.drop (j + 1)) := by
          unfold stepV
          rw [← List.flatMap_append, List.take_append_drop]
        rw [this, List.length_append]
        omega
      rw [hsplit, List.length_append] at hlen
      walk_at "D"
      refine ⟨⟨_, hs'⟩, by omega, by omega, by rw [List.length_range, sizeL]; omega, ?_⟩
      rw [show (List.range c).map (fun (j : Nat) => DV.d (.int (j : Int))) = (rangeI c).map fun k => I k by unfold rangeI; rw [List.map_map]; rfl]
      refine comp_fmT _ (fun x => !decide (x ∈ q)) (fun x => .d (TI (q ++ [x]))) trivial _ _ ?_ ?_
      · intro x hx Q1 Q2 h
        walk_at "D"
        by_cases cx : x ∈ q
        · simp only [cx, decide_true, Bool.not_true, Bool.false_eq_true, if_false] at h ⊢
          exact h
        · simp only [cx, decide_false, Bool.not_false, if_true] at h ⊢
          exact ⟨by decide, by rw [sizeL]; omega, h⟩
      · have e2 : [] ++ ((rangeI c).filter fun x => !decide (x ∈ q)).map (fun x => DV.d (TI (q ++ [x]))) = (((stp c q).map fun x => q ++ [x]).map TI).map .d := by
          rw [List.nil_append, List.map_map, List.map_map]
          rfl
        rw [e2]
        walk_at "D"
        refine ⟨_, _, hs', rfl, by simp only [List.length_map, sizeL] at hlen ⊢; omega, hL2 _ _ ⟨le'.up hp, _, rfl, ?_⟩⟩
        rw [up_same, hsplit, List.map_append, List.map_append]
    · rintro ε s' ⟨le', y4, rfl, hs'⟩
      refine hN _ _ ?_
      rw [List.take_length] at hs'
      walk_at "D"
      refine hL _ _ ⟨le.trans le', by omega, .r p, _, _, _, rfl, fun a e => ?_, ?_⟩
      · cases e
        cases z : st p with
        | none => rfl
        | some m => rw [le p m z] at hp; cases hp
      rw [hnx]
      simp only [sitems, titems, litems, hs']
  · rintro ε s ⟨le, hil, x, y2, y3, y4, rfl, hr, hx⟩
    refine hN _ _ ?_
    rw [List.length_range] at hx
    walk_at "D"
    exact fg_ret (K x s le hr hx)
def sp_law_shuffled : SpD := fun xs st Q => ∃ (m : Addr) (c B : Nat), xs = [.r m, I c] ∧ c ≤ 60 ∧ B + 100 < 2 ^ 50 ∧ DrawSt st m B ∧ ∀ (l : List Int) st', l.length = c → Low c l → DrawSt st' m (B + 100) → (∀ b, b ≠ m → st b ≠ none → st' b = st b) → Q (.d (TI l)) st'
theorem len_law_shuffled : ∀ xs st Q, sp_law_shuffled xs st Q → xs.length = 2 := by rintro xs st Q ⟨m, c, B, rfl, _⟩; rfl
theorem sem_law_shuffled : ∀ xs st Q, sp_law_shuffled xs st Q → rd_law_shuffled sp_law_of { nx := fun _ st' => Fg Q (.d .none) st', rt := Fg Q } (startD 7 xs) st := by
  rintro xs st Q ⟨m, c, B, rfl, hc, hB, D, K⟩
  have e0 : startD 7 [.r m, I c] = [some (.r m), some (I c), none, none, none, none, none] := rfl
  rw [e0]
  unfold rd_law_shuffled
  refine seq fun N hN => ?_
  walk_at "D"
  refine ⟨by omega, by omega, ?_⟩
  rw [rng_dv]
  simp only [datas_map]
  refine ⟨by decide, fun p hp => hN _ _ ?_⟩; clear hN N
  have hmp : p ≠ m := fun e => by
    obtain ⟨_, _, _, _, h, _⟩ := D
    rw [e, h] at hp
    cases hp
  have D0 : DrawSt (up st p (.lst [])) m B := by
    obtain ⟨l, s, cc, q, h1, h2⟩ := D
    exact ⟨l, s, cc, q, (up_ne (Ne.symm hmp)).trans h1, h2⟩
  refine seq fun N hN => ?_
  walk_at "D"
  refine ⟨by omega, by omega, ?_⟩
  walk_at "D"
  refine for_byT _ (fun i ε s => DrawSt s m (B + i) ∧ i ≤ c ∧ (∀ b, b ≠ m → b ≠ p → s b = st b) ∧ ∃ (lf fd : List Int) (y4 y5 : Option DV), ε = [some (.r m), some (I c), some (.d (LI lf)), some (.r p), y4, y5, none] ∧ s p = some (.lst ((fd.map .int).map .d)) ∧ fd.length = i ∧ lf.length + i = c ∧ lf.Nodup ∧ Low c lf ∧ Low c fd)
    ⟨D0, Nat.zero_le _, fun b _ hb => up_ne hb, rangeI c, [], _, _, rfl, up_same, rfl, by rw [Nat.add_zero, List.length_map, List.length_range], nodup_rngI c, fun x hx => mem_rngV.mp hx, fun x h => (nomatch h)⟩ (fun _ _ _ _ => trivial) ?_ ?_
  · rintro i k ε s hi ⟨D1, hic, fr, lf, fd, y4, y5, rfl, hs, h1, h2, nd, w1, w2⟩ L hL
    obtain ⟨rfl, hkc⟩ := range_some hi
    refine seq fun N2 hN2 => ?_
    walk_at "D"
    refine drawI lf D1 (fun e => by rw [e] at h2; simp at h2; omega) (by omega) (by omega) fun x s2 hx D2 fr2 => ?_
    refine hN2 _ _ ?_; clear hN2 N2
    have hs2 : s2 p = some (.lst ((fd.map .int).map .d)) := by rw [fr2 p hmp]; exact hs
    refine seq fun N2 hN2 => ?_
    walk_at "D"
    refine ⟨by rw [sizeL]; omega, ?_⟩
    rw [List.map_map]
    refine comp_fmT _ (fun y => !decide (y = x)) (fun y => I y) trivial _ _ ?_ ?_
    · intro y hy Q1 Q2 h
      walk_at "D"
      exact h
    rw [show ([] : List DV) ++ (lf.filter fun y => !decide (y = x)).map (fun y => I y) = ((lf.filter fun y => !decide (y = x)).map PyData.int).map .d by rw [List.nil_append, List.map_map]; rfl]
    walk_at "D"
    refine hN2 _ _ ?_; clear hN2 N2
    walk_at "D"
    have hfl : (lf.filter fun y => !decide (y = x)).length + 1 = lf.length := by
      have hp1 : lf.Perm (x :: lf.erase x) := List.perm_cons_erase hx
      have hp2 : lf.filter (fun y => !decide (y = x)) = lf.erase x := by
        rw [nd.erase_eq_filter]
        refine List.filter_congr fun y _ => ?_
        rw [Bool.eq_iff_iff]
        simp
      rw [hp2, hp1.length_eq]
      simp
    refine ⟨⟨_, hs2⟩, _, hs2, by simp only [List.length_map, sizeL]; omega, hL _ _ ⟨?_, by omega, fun b hb hbp => by rw [up_ne hbp, fr2 b hb]; exact fr b hb hbp, _, fd ++ [x], _, _, rfl, ?_, by rw [List.length_append, h1]; rfl, by omega, nd.sublist List.filter_sublist, fun y hy => w1 y (List.mem_filter.mp hy).1, fun y hy => ?_⟩⟩
    · obtain ⟨l, s', cc, q, h1, h2⟩ := D2
      exact ⟨l, s', cc, q, (up_ne (Ne.symm hmp)).trans h1, h2.1, h2.2.1, by have := h2.2.2; omega⟩
    · rw [up_same, List.map_append, List.map_append]
      rfl
    · rcases List.mem_append.mp hy with z | z
      · exact w2 y z
      · rw [List.mem_singleton.mp z]
        exact w1 x hx
  · rintro ε s ⟨D1, hic, fr, lf, fd, y4, y5, rfl, hs, h1, h2, nd, w1, w2⟩
    rw [List.length_range] at D1 h1
    refine hN _ _ ?_
    walk_at "D"
    simp only [hs]
    walk_at "D"
    refine fg_ret (K fd s h1 w2 (D1.mono (by omega)) fun b hb hn => ?_)
    have : b ≠ p := fun z => hn (by rw [z]; exact hp)
    exact fr b hb this
end UC
end
section
set_option linter.all false
set_option maxRecDepth 100000
set_option maxHeartbeats 1000000
open PySem L2 DL RD UC
local macro_rules | `(tactic| walk_at "E") => `(tactic| (try simp only [qAsg, qRet, qDrop, qIfS, qTest, qAndT, qOrT, qNotT, qAndV, qOrV, qNotV, qIf, qOp, qUn, qChain, onB, qv, qc, qgN, qgT, qgCons, qgNil, qCons, qNil, qTup, qLst, qPar, qPar3, qAug, qCB, qCall, qLen, qTupleC, qListC, qMax2, qMin2, qIntC, qSum, qAny, qAll, qIsi, tyName, qAdd, qSub, qMul, qFdiv, qMod, qPow, qI2, qCmpI, qEq, qNe, qLt, qLe, qGt, qGe, qNeg, qIx, qDGet, qDIn, qDPut, qSl, qPart, qNoPart, qNext, qFor, qiSeq, qiRng1, qiRng2, qiZip, qiEnum, qLc, seqSrc, lsrc, titems, litems, sitems, fz, newL, List.getElem?_cons_zero, List.getElem?_cons_succ, List.set_cons_zero, List.set_cons_succ, if_true, if_false, Bool.false_eq_true, ite_true, ite_false, up_same, reduceIte, decide_true, decide_false, true_and, and_true]))
local macro_rules | `(tactic| walk_at "D") => `(tactic| (try simp only [qAsg, qRet, qDrop, qIfS, qTest, qAndT, qOrT, qNotT, qAndV, qOrV, qNotV, qIf, qOp, qUn, qChain, onB, qv, qc, qgN, qgT, qgCons, qgNil, qCons, qNil, qTup, qLst, qPar, qPar3, qAug, qCB, qCall, qLen, qTupleC, qListC, qMax2, qMin2, qIntC, qSum, qAny, qAll, qIsi, tyName, qAdd, qSub, qMul, qFdiv, qMod, qPow, qI2, qCmpI, qEq, qNe, qLt, qLe, qGt, qGe, qNeg, qIx, qDGet, qDIn, qDPut, qSl, qPart, qNoPart, qNext, qFor, qiSeq, qiRng1, qiRng2, qiZip, qiEnum, qLc, seqSrc, lsrc, titems, litems, sitems, fz, newL, List.getElem?_cons_zero, List.getElem?_cons_succ, List.set_cons_zero, List.set_cons_succ, if_true, if_false, Bool.false_eq_true, ite_true, ite_false, up_same, reduceIte, decide_true, decide_false, true_and, and_true, eqv_int, eqv_bool, eqv_TI, eqv_LI, eqv_TT, eqv_LT, eqv_nilL, eqv_nilT, shaped_TI, shaped_LI, shaped_TT, shaped_LT, shaped_int, shaped_bool, shaped_nilL, shaped_nilT, dints_map2, dbools_map2, datas_map, mkT_map, mkT_0, mkT_1, mkT_2, mkT_3, List.length_map, List.length_cons, List.length_nil, List.length_append, List.map_cons, List.map_nil, wipeD, Bool.not_true, Bool.not_false, eq_self, not_true_eq_false, not_false_eq_true, kitB_tt, kitB_ll, kitB_dd, kitB_bb, kitB_ib, kitB_ii, kitB_ss, kitB_tl, kitB_lt, Function.comp, datas, Option.map_some, List.cons_append, List.nil_append, CPow, le_size4, Int.toNat_natCast, rngD0, I_eq, Bo_eq, BS.qSortB, in_IT, in_IL, in_TT, in_TL, qNotN, qIsN, qSortD, qListRg, qDispT, keyX_TI, qGet, qiItems, qLockE, qLockS, qPop, qMaxDf, qLc2, qMax1, qMin1, qAppend, qExtend, tints_TI, dv_TI, Option.bind_some, qRetN, atI_0, atI_1, atI_2, mk_appT, mk_snocI, idl, rep_I, Option.map_none, eqv_idl, shaped_idl, Bool.and_self, Bool.true_and, Bool.and_true]))
local macro_rules | `(tactic| walk_at "F") => `(tactic| (try simp only [qAsg, qRet, qDrop, qIfS, qTest, qAndT, qOrT, qNotT, qAndV, qOrV, qNotV, qIf, qOp, qUn, qChain, onB, qv, qc, qgN, qgT, qgCons, qgNil, qCons, qNil, qTup, qLst, qPar, qPar3, qAug, qCB, qCall, qLen, qTupleC, qListC, qMax2, qMin2, qIntC, qSum, qAny, qAll, qIsi, tyName, qAdd, qSub, qMul, qFdiv, qMod, qPow, qI2, qCmpI, qEq, qNe, qLt, qLe, qGt, qGe, qNeg, qIx, qDGet, qDIn, qDPut, qSl, qPart, qNoPart, qNext, qFor, qiRng1, qiRng2, qiZip, qiEnum, qLc, fz, newL, List.getElem?_cons_zero, List.getElem?_cons_succ, List.set_cons_zero, List.set_cons_succ, if_true, if_false, Bool.false_eq_true, ite_true, ite_false, up_same, reduceIte, decide_true, decide_false, true_and, and_true, eqv_int, eqv_bool, eqv_TI, eqv_LI, eqv_TT, eqv_LT, eqv_nilL, eqv_nilT, shaped_TI, shaped_LI, shaped_TT, shaped_LT, shaped_int, shaped_bool, shaped_nilL, shaped_nilT, dints_map2, dbools_map2, datas_map, mkT_map, mkT_0, mkT_1, mkT_2, mkT_3, List.length_map, List.length_cons, List.length_nil, List.length_append, List.map_cons, List.map_nil, wipeD, Bool.not_true, Bool.not_false, eq_self, not_true_eq_false, not_false_eq_true, kitB_tt, kitB_ll, kitB_dd, kitB_bb, kitB_ib, kitB_ii, kitB_ss, kitB_tl, kitB_lt, Function.comp, datas, Option.map_some, List.cons_append, List.nil_append, CPow, le_size4, Int.toNat_natCast, rngD0, I_eq, Bo_eq, BS.qSortB, in_IT, in_IL, in_TT, in_TL, qNotN, qIsN, qSortD, qListRg, qDispT, keyX_TI, qGet, qiItems, qLockE, qLockS, qPop, qMaxDf, qLc2, qMax1, qMin1, qAppend, qExtend, tints_TI, dv_TI, Option.bind_some, qRetN, atI_0, atI_1, atI_2, mk_appT, mk_snocI, idl, rep_I, Option.map_none, eqv_idl, shaped_idl, Bool.and_self, Bool.true_and, Bool.and_true]))
namespace UC
open PySem L2 DL RD
theorem enumD_of {α : Type} (f : α → PyData) : ∀ (a : List α), enumD ((a.map f).map DV.d) = a.zipIdx.map fun p => DV.d (.tuple [.int p.2, f p.1]) := by
  intro a
  unfold enumD
  rw [List.map_map, List.mapIdx_eq_zipIdx_map, List.zipIdx_map, List.map_map]
  rfl
theorem cutD_take {α : Type} (xs : List α) (k : Nat) : cutD xs none (some (k : Int)) = xs.take k := by
  unfold cutD
  rw [HT.sIx_nat, HT.sIx_none, Nat.sub_zero, List.drop_zero]
  by_cases h : k ≤ xs.length
  · rw [Nat.min_eq_left h]
  · rw [Nat.min_eq_right (by omega), List.take_length, List.take_of_length_le (by omega)]
end UC
end
section
set_option linter.all false
set_option maxRecDepth 100000
set_option maxHeartbeats 1000000
open PySem L2 DL RD UC
local macro_rules | `(tactic| walk_at "E") => `(tactic| (try simp only [qAsg, qRet, qDrop, qIfS, qTest, qAndT, qOrT, qNotT, qAndV, qOrV, qNotV, qIf, qOp, qUn, qChain, onB, qv, qc, qgN, qgT, qgCons, qgNil, qCons, qNil, qTup, qLst, qPar, qPar3, qAug, qCB, qCall, qLen, qTupleC, qListC, qMax2, qMin2, qIntC, qSum, qAny, qAll, qIsi, tyName, qAdd, qSub, qMul, qFdiv, qMod, qPow, qI2, qCmpI, qEq, qNe, qLt, qLe, qGt, qGe, qNeg, qIx, qDGet, qDIn, qDPut, qSl, qPart, qNoPart, qNext, qFor, qiSeq, qiRng1, qiRng2, qiZip, qiEnum, qLc, seqSrc, lsrc, titems, litems, sitems, fz, newL, List.getElem?_cons_zero, List.getElem?_cons_succ, List.set_cons_zero, List.set_cons_succ, if_true, if_false, Bool.false_eq_true, ite_true, ite_false, up_same, reduceIte, decide_true, decide_false, true_and, and_true]))
local macro_rules | `(tactic| walk_at "D") => `(tactic| (try simp only [qAsg, qRet, qDrop, qIfS, qTest, qAndT, qOrT, qNotT, qAndV, qOrV, qNotV, qIf, qOp, qUn, qChain, onB, qv, qc, qgN, qgT, qgCons, qgNil, qCons, qNil, qTup, qLst, qPar, qPar3, qAug, qCB, qCall, qLen, qTupleC, qListC, qMax2, qMin2, qIntC, qSum, qAny, qAll, qIsi, tyName, qAdd, qSub, qMul, qFdiv, qMod, qPow, qI2, qCmpI, qEq, qNe, qLt, qLe, qGt, qGe, qNeg, qIx, qDGet, qDIn, qDPut, qSl, qPart, qNoPart, qNext, qFor, qiSeq, qiRng1, qiRng2, qiZip, qiEnum, qLc, seqSrc, lsrc, titems, litems, sitems, fz, newL, List.getElem?_cons_zero, List.getElem?_cons_succ, List.set_cons_zero, List.set_cons_succ, if_true, if_false, Bool.false_eq_true, ite_true, ite_false, up_same, reduceIte, decide_true, decide_false, true_and, and_true, eqv_int, eqv_bool, eqv_TI, eqv_LI, eqv_TT, eqv_LT, eqv_nilL, eqv_nilT, shaped_TI, shaped_LI, shaped_TT, shaped_LT, shaped_int, shaped_bool, shaped_nilL, shaped_nilT, dints_map2, dbools_map2, datas_map, mkT_map, mkT_0, mkT_1, mkT_2, mkT_3, List.length_map, List.length_cons, List.length_nil, List.length_append, List.map_cons, List.map_nil, wipeD, Bool.not_true, Bool.not_false, eq_self, not_true_eq_false, not_false_eq_true, kitB_tt, kitB_ll, kitB_dd, kitB_bb, kitB_ib, kitB_ii, kitB_ss, kitB_tl, kitB_lt, Function.comp, datas, Option.map_some, List.cons_append, List.nil_append, CPow, le_size4, Int.toNat_natCast, rngD0, I_eq, Bo_eq, BS.qSortB, in_IT, in_IL, in_TT, in_TL, qNotN, qIsN, qSortD, qListRg, qDispT, keyX_TI, qGet, qiItems, qLockE, qLockS, qPop, qMaxDf, qLc2, qMax1, qMin1, qAppend, qExtend, tints_TI, dv_TI, Option.bind_some, qRetN, atI_0, atI_1, atI_2, mk_appT, mk_snocI, idl, rep_I, Option.map_none, eqv_idl, shaped_idl, Bool.and_self, Bool.true_and, Bool.and_true]))
local macro_rules | `(tactic| walk_at "F") => `(tactic| (try simp only [qAsg, qRet, qDrop, qIfS, qTest, qAndT, qOrT, qNotT, qAndV, qOrV, qNotV, qIf, qOp, qUn, qChain, onB, qv, qc, qgN, qgT, qgCons, qgNil, qCons, qNil, qTup, qLst, qPar, qPar3, qAug, qCB, qCall, qLen, qTupleC, qListC, qMax2, qMin2, qIntC, qSum, qAny, qAll, qIsi, tyName, qAdd, qSub, qMul, qFdiv, qMod, qPow, qI2, qCmpI, qEq, qNe, qLt, qLe, qGt, qGe, qNeg, qIx, qDGet, qDIn, qDPut, qSl, qPart, qNoPart, qNext, qFor, qiRng1, qiRng2, qiZip, qiEnum, qLc, fz, newL, List.getElem?_cons_zero, List.getElem?_cons_succ, List.set_cons_zero, List.set_cons_succ, if_true, if_false, Bool.false_eq_true, ite_true, ite_false, up_same, reduceIte, decide_true, decide_false, true_and, and_true, eqv_int, eqv_bool, eqv_TI, eqv_LI, eqv_TT, eqv_LT, eqv_nilL, eqv_nilT, shaped_TI, shaped_LI, shaped_TT, shaped_LT, shaped_int, shaped_bool, shaped_nilL, shaped_nilT, dints_map2, dbools_map2, datas_map, mkT_map, mkT_0, mkT_1, mkT_2, mkT_3, List.length_map, List.length_cons, List.length_nil, List.length_append, List.map_cons, List.map_nil, wipeD, Bool.not_true, Bool.not_false, eq_self, not_true_eq_false, not_false_eq_true, kitB_tt, kitB_ll, kitB_dd, kitB_bb, kitB_ib, kitB_ii, kitB_ss, kitB_tl, kitB_lt, Function.comp, datas, Option.map_some, List.cons_append, List.nil_append, CPow, le_size4, Int.toNat_natCast, rngD0, I_eq, Bo_eq, BS.qSortB, in_IT, in_IL, in_TT, in_TL, qNotN, qIsN, qSortD, qListRg, qDispT, keyX_TI, qGet, qiItems, qLockE, qLockS, qPop, qMaxDf, qLc2, qMax1, qMin1, qAppend, qExtend, tints_TI, dv_TI, Option.bind_some, qRetN, atI_0, atI_1, atI_2, mk_appT, mk_snocI, idl, rep_I, Option.map_none, eqv_idl, shaped_idl, Bool.and_self, Bool.true_and, Bool.and_true]))
namespace UC
open PySem L2 DL RD
abbrev sp_law_cut : SpD := sp2 cutL
theorem len_law_cut : ∀ xs st Q, sp_law_cut xs st Q → xs.length = 2 := len_sp2
theorem sem_law_cut : ∀ xs st Q, sp_law_cut xs st Q → rd_law_cut { nx := fun _ st' => Fg Q (.d .none) st', rt := Fg Q } (startD 3 xs) st :=
  sem2_of (fe := fun x y => max (x - y) 0) rfl fun a b j st Q h1 h2 h => by
    walk_at "D"
    simp only [atI_gd h1, atI_gd h2]
    rw [show (if 0 > gd a j - gd b j then 0 else gd a j - gd b j) = max (gd a j - gd b j) 0 by rw [Int.max_def]; split <;> split <;> omega]
    exact h
end UC
end
section
set_option linter.all false
set_option maxRecDepth 100000
set_option maxHeartbeats 1000000
open PySem L2 DL RD UC
local macro_rules | `(tactic| walk_at "E") => `(tactic| (try simp only [qAsg, qRet, qDrop, qIfS, qTest, qAndT, qOrT, qNotT, qAndV, qOrV, qNotV, qIf, qOp, qUn, qChain, onB, qv, qc, qgN, qgT, qgCons, qgNil, qCons, qNil, qTup, qLst, qPar, qPar3, qAug, qCB, qCall, qLen, qTupleC, qListC, qMax2, qMin2, qIntC, qSum, qAny, qAll, qIsi, tyName, qAdd, qSub, qMul, qFdiv, qMod, qPow, qI2, qCmpI, qEq, qNe, qLt, qLe, qGt, qGe, qNeg, qIx, qDGet, qDIn, qDPut, qSl, qPart, qNoPart, qNext, qFor, qiSeq, qiRng1, qiRng2, qiZip, qiEnum, qLc, seqSrc, lsrc, titems, litems, sitems, fz, newL, List.getElem?_cons_zero, List.getElem?_cons_succ, List.set_cons_zero, List.set_cons_succ, if_true, if_false, Bool.false_eq_true, ite_true, ite_false, up_same, reduceIte, decide_true, decide_false, true_and, and_true]))
local macro_rules | `(tactic| walk_at "D") => `(tactic| (try simp only [qAsg, qRet, qDrop, qIfS, qTest, qAndT, qOrT, qNotT, qAndV, qOrV, qNotV, qIf, qOp, qUn, qChain, onB, qv, qc, qgN, qgT, qgCons, qgNil, qCons, qNil, qTup, qLst, qPar, qPar3, qAug, qCB, qCall, qLen, qTupleC, qListC, qMax2, qMin2, qIntC, qSum, qAny, qAll, qIsi, tyName, qAdd, qSub, qMul, qFdiv, qMod, qPow, qI2, qCmpI, qEq, qNe, qLt, qLe, qGt, qGe, qNeg, qIx, qDGet, qDIn, qDPut, qSl, qPart, qNoPart, qNext, qFor, qiSeq, qiRng1, qiRng2, qiZip, qiEnum, qLc, seqSrc, lsrc, titems, litems, sitems, fz, newL, List.getElem?_cons_zero, List.getElem?_cons_succ, List.set_cons_zero, List.set_cons_succ, if_true, if_false, Bool.false_eq_true, ite_true, ite_false, up_same, reduceIte, decide_true, decide_false, true_and, and_true, eqv_int, eqv_bool, eqv_TI, eqv_LI, eqv_TT, eqv_LT, eqv_nilL, eqv_nilT, shaped_TI, shaped_LI, shaped_TT, shaped_LT, shaped_int, shaped_bool, shaped_nilL, shaped_nilT, dints_map2, dbools_map2, datas_map, mkT_map, mkT_0, mkT_1, mkT_2, mkT_3, List.length_map, List.length_cons, List.length_nil, List.length_append, List.map_cons, List.map_nil, wipeD, Bool.not_true, Bool.not_false, eq_self, not_true_eq_false, not_false_eq_true, kitB_tt, kitB_ll, kitB_dd, kitB_bb, kitB_ib, kitB_ii, kitB_ss, kitB_tl, kitB_lt, Function.comp, datas, Option.map_some, List.cons_append, List.nil_append, CPow, le_size4, Int.toNat_natCast, rngD0, I_eq, Bo_eq, BS.qSortB, in_IT, in_IL, in_TT, in_TL, qNotN, qIsN, qSortD, qListRg, qDispT, keyX_TI, qGet, qiItems, qLockE, qLockS, qPop, qMaxDf, qLc2, qMax1, qMin1, qAppend, qExtend, tints_TI, dv_TI, Option.bind_some, qRetN, atI_0, atI_1, atI_2, mk_appT, mk_snocI, idl, rep_I, Option.map_none, eqv_idl, shaped_idl, Bool.and_self, Bool.true_and, Bool.and_true]))
local macro_rules | `(tactic| walk_at "F") => `(tactic| (try simp only [qAsg, qRet, qDrop, qIfS, qTest, qAndT, qOrT, qNotT, qAndV, qOrV, qNotV, qIf, qOp, qUn, qChain, onB, qv, qc, qgN, qgT, qgCons, qgNil, qCons, qNil, qTup, qLst, qPar, qPar3, qAug, qCB, qCall, qLen, qTupleC, qListC, qMax2, qMin2, qIntC, qSum, qAny, qAll, qIsi, tyName, qAdd, qSub, qMul, qFdiv, qMod, qPow, qI2, qCmpI, qEq, qNe, qLt, qLe, qGt, qGe, qNeg, qIx, qDGet, qDIn, qDPut, qSl, qPart, qNoPart, qNext, qFor, qiRng1, qiRng2, qiZip, qiEnum, qLc, fz, newL, List.getElem?_cons_zero, List.getElem?_cons_succ, List.set_cons_zero, List.set_cons_succ, if_true, if_false, Bool.false_eq_true, ite_true, ite_false, up_same, reduceIte, decide_true, decide_false, true_and, and_true, eqv_int, eqv_bool, eqv_TI, eqv_LI, eqv_TT, eqv_LT, eqv_nilL, eqv_nilT, shaped_TI, shaped_LI, shaped_TT, shaped_LT, shaped_int, shaped_bool, shaped_nilL, shaped_nilT, dints_map2, dbools_map2, datas_map, mkT_map, mkT_0, mkT_1, mkT_2, mkT_3, List.length_map, List.length_cons, List.length_nil, List.length_append, List.map_cons, List.map_nil, wipeD, Bool.not_true, Bool.not_false, eq_self, not_true_eq_false, not_false_eq_true, kitB_tt, kitB_ll, kitB_dd, kitB_bb, kitB_ib, kitB_ii, kitB_ss, kitB_tl, kitB_lt, Function.comp, datas, Option.map_some, List.cons_append, List.nil_append, CPow, le_size4, Int.toNat_natCast, rngD0, I_eq, Bo_eq, BS.qSortB, in_IT, in_IL, in_TT, in_TL, qNotN, qIsN, qSortD, qListRg, qDispT, keyX_TI, qGet, qiItems, qLockE, qLockS, qPop, qMaxDf, qLc2, qMax1, qMin1, qAppend, qExtend, tints_TI, dv_TI, Option.bind_some, qRetN, atI_0, atI_1, atI_2, mk_appT, mk_snocI, idl, rep_I, Option.map_none, eqv_idl, shaped_idl, Bool.and_self, Bool.true_and, Bool.and_true]))
namespace UC
open PySem L2 DL RD
end UC
end
section
set_option linter.all false
set_option maxRecDepth 100000
set_option maxHeartbeats 1000000
open PySem L2 DL RD UC
local macro_rules | `(tactic| walk_at "E") => `(tactic| (try simp only [qAsg, qRet, qDrop, qIfS, qTest, qAndT, qOrT, qNotT, qAndV, qOrV, qNotV, qIf, qOp, qUn, qChain, onB, qv, qc, qgN, qgT, qgCons, qgNil, qCons, qNil, qTup, qLst, qPar, qPar3, qAug, qCB, qCall, qLen, qTupleC, qListC, qMax2, qMin2, qIntC, qSum, qAny, qAll, qIsi, tyName, qAdd, qSub, qMul, qFdiv, qMod, qPow, qI2, qCmpI, qEq, qNe, qLt, qLe, qGt, qGe, qNeg, qIx, qDGet, qDIn, qDPut, qSl, qPart, qNoPart, qNext, qFor, qiSeq, qiRng1, qiRng2, qiZip, qiEnum, qLc, seqSrc, lsrc, titems, litems, sitems, fz, newL, List.getElem?_cons_zero, List.getElem?_cons_succ, List.set_cons_zero, List.set_cons_succ, if_true, if_false, Bool.false_eq_true, ite_true, ite_false, up_same, reduceIte, decide_true, decide_false, true_and, and_true]))
local macro_rules | `(tactic| walk_at "D") => `(tactic| (try simp only [qAsg, qRet, qDrop, qIfS, qTest, qAndT, qOrT, qNotT, qAndV, qOrV, qNotV, qIf, qOp, qUn, qChain, onB, qv, qc, qgN, qgT, qgCons, qgNil, qCons, qNil, qTup, qLst, qPar, qPar3, qAug, qCB, qCall, qLen, qTupleC, qListC, qMax2, qMin2, qIntC, qSum, qAny, qAll, qIsi, tyName, qAdd, qSub, qMul, qFdiv, qMod, qPow, qI2, qCmpI, qEq, qNe, qLt, qLe, qGt, qGe, qNeg, qIx, qDGet, qDIn, qDPut, qSl, qPart, qNoPart, qNext, qFor, qiSeq, qiRng1, qiRng2, qiZip, qiEnum, qLc, seqSrc, lsrc, titems, litems, sitems, fz, newL, List.getElem?_cons_zero, List.getElem?_cons_succ, List.set_cons_zero, List.set_cons_succ, if_true, if_false, Bool.false_eq_true, ite_true, ite_false, up_same, reduceIte, decide_true, decide_false, true_and, and_true, eqv_int, eqv_bool, eqv_TI, eqv_LI, eqv_TT, eqv_LT, eqv_nilL, eqv_nilT, shaped_TI, shaped_LI, shaped_TT, shaped_LT, shaped_int, shaped_bool, shaped_nilL, shaped_nilT, dints_map2, dbools_map2, datas_map, mkT_map, mkT_0, mkT_1, mkT_2, mkT_3, List.length_map, List.length_cons, List.length_nil, List.length_append, List.map_cons, List.map_nil, wipeD, Bool.not_true, Bool.not_false, eq_self, not_true_eq_false, not_false_eq_true, kitB_tt, kitB_ll, kitB_dd, kitB_bb, kitB_ib, kitB_ii, kitB_ss, kitB_tl, kitB_lt, Function.comp, datas, Option.map_some, List.cons_append, List.nil_append, CPow, le_size4, Int.toNat_natCast, rngD0, I_eq, Bo_eq, BS.qSortB, in_IT, in_IL, in_TT, in_TL, qNotN, qIsN, qSortD, qListRg, qDispT, keyX_TI, qGet, qiItems, qLockE, qLockS, qPop, qMaxDf, qLc2, qMax1, qMin1, qAppend, qExtend, tints_TI, dv_TI, Option.bind_some, qRetN, atI_0, atI_1, atI_2, mk_appT, mk_snocI, idl, rep_I, Option.map_none, eqv_idl, shaped_idl, Bool.and_self, Bool.true_and, Bool.and_true]))
local macro_rules | `(tactic| walk_at "F") => `(tactic| (try simp only [qAsg, qRet, qDrop, qIfS, qTest, qAndT, qOrT, qNotT, qAndV, qOrV, qNotV, qIf, qOp, qUn, qChain, onB, qv, qc, qgN, qgT, qgCons, qgNil, qCons, qNil, qTup, qLst, qPar, qPar3, qAug, qCB, qCall, qLen, qTupleC, qListC, qMax2, qMin2, qIntC, qSum, qAny, qAll, qIsi, tyName, qAdd, qSub, qMul, qFdiv, qMod, qPow, qI2, qCmpI, qEq, qNe, qLt, qLe, qGt, qGe, qNeg, qIx, qDGet, qDIn, qDPut, qSl, qPart, qNoPart, qNext, qFor, qiRng1, qiRng2, qiZip, qiEnum, qLc, fz, newL, List.getElem?_cons_zero, List.getElem?_cons_succ, List.set_cons_zero, List.set_cons_succ, if_true, if_false, Bool.false_eq_true, ite_true, ite_false, up_same, reduceIte, decide_true, decide_false, true_and, and_true, eqv_int, eqv_bool, eqv_TI, eqv_LI, eqv_TT, eqv_LT, eqv_nilL, eqv_nilT, shaped_TI, shaped_LI, shaped_TT, shaped_LT, shaped_int, shaped_bool, shaped_nilL, shaped_nilT, dints_map2, dbools_map2, datas_map, mkT_map, mkT_0, mkT_1, mkT_2, mkT_3, List.length_map, List.length_cons, List.length_nil, List.length_append, List.map_cons, List.map_nil, wipeD, Bool.not_true, Bool.not_false, eq_self, not_true_eq_false, not_false_eq_true, kitB_tt, kitB_ll, kitB_dd, kitB_bb, kitB_ib, kitB_ii, kitB_ss, kitB_tl, kitB_lt, Function.comp, datas, Option.map_some, List.cons_append, List.nil_append, CPow, le_size4, Int.toNat_natCast, rngD0, I_eq, Bo_eq, BS.qSortB, in_IT, in_IL, in_TT, in_TL, qNotN, qIsN, qSortD, qListRg, qDispT, keyX_TI, qGet, qiItems, qLockE, qLockS, qPop, qMaxDf, qLc2, qMax1, qMin1, qAppend, qExtend, tints_TI, dv_TI, Option.bind_some, qRetN, atI_0, atI_1, atI_2, mk_appT, mk_snocI, idl, rep_I, Option.map_none, eqv_idl, shaped_idl, Bool.and_self, Bool.true_and, Bool.and_true]))
namespace UC
open PySem L2 DL RD
end UC
end
section
set_option linter.all false
set_option maxRecDepth 100000
namespace RD
open PySem L2 DL
/-- _law_moved(a, m, j) slots: 0=a 1=m 2=j 3=k -/
def rd_law_moved : TDs :=
  (qRet (qCB qTupleC (qCons (qLc false (qiRng1 (qCons (qCB qLen (qCons (qv 0) qNil)) qNil)) (qgN 3) qYes (qOp (qAdd false) (qOp qSub (qOp qIx (qv 0) (qv 3)) (qIf (qTest (qOp qEq (qv 3) (qv 1))) (qc (.d (.int 1))) (qc (.d (.int 0))))) (qIf (qTest (qOp qEq (qv 3) (qv 2))) (qc (.d (.int 1))) (qc (.d (.int 0))))) [3]) qNil)))
/-- _law_hull(monomials) slots: 0=monomials 1=found 2=at 3=a 4=m 5=b 6=j -/
def rd_law_hull (sp_law_moved : SpD) (sp_law_least : SpD) : TDs :=
  (qSeq (qAsg (qCB (qListC true) (qCons (qv 0) qNil)) (qgN 1))
  (qSeq (qFor (qiRng1 (qCons (qc (.d (.int 5000))) qNil)) (qgN 2) (qIfS (qTest (qOp qLt (qv 2) (qCB qLen (qCons (qv 1) qNil)))) (qSeq (qAsg (qOp qIx (qv 1) (qv 2)) (qgN 3))
          (qFor (qiRng1 (qCons (qCB qLen (qCons (qv 3) qNil)) qNil)) (qgN 4) (qIfS (qTest (qOp qGt (qOp qIx (qv 3) (qv 4)) (qc (.d (.int 0))))) (qDrop (qExtend (qv 1) (qLc false (qiSeq (qLc false (qiRng1 (qCons (qv 4) qNil)) (qgN 6) qYes (qCall sp_law_moved (qCons (qv 3) (qCons (qv 4) (qCons (qv 6) qNil)))) [6])) (qgN 5) (qTest (qOp (qIn true) (qv 5) (qv 1))) (qv 5) [5]))) qNext))) qNext))
  (qRet (qCall sp_law_least (qCons (qv 1) qNil)))))
/-- _law_some_ideal(m) slots: 0=m 1=n 2=hull 3=a 4=k -/
def rd_law_some_ideal (sp_law_draw : SpD) (sp_law_ideal : SpD) (sp_law_monomial : SpD) (sp_law_hull : SpD) : TDs :=
  (qSeq (qAsg (qOp (qAdd false) (qc (.d (.int 1))) (qCall sp_law_draw (qCons (qv 0) (qCons (qc (.d (.int 4))) qNil)))) (qgN 1))
  (qSeq (qIfS (qTest (qOp qEq (qCall sp_law_draw (qCons (qv 0) (qCons (qc (.d (.int 2))) qNil))) (qc (.d (.int 0))))) (qRet (qCall sp_law_ideal (qCons (qv 0) (qCons (qv 1) (qCons (qc (.d (.int 5))) (qCons (qOp (qAdd false) (qc (.d (.int 1))) (qCall sp_law_draw (qCons (qv 0) (qCons (qc (.d (.int 3))) qNil)))) qNil)))))) qNext)
  (qSeq (qAsg (qCall sp_law_hull (qCons (qLc false (qiSeq (qLc false (qiRng1 (qCons (qc (.d (.int 2))) qNil)) (qgN 4) qYes (qCall sp_law_monomial (qCons (qv 0) (qCons (qv 1) (qCons (qc (.d (.int 1))) qNil)))) [4])) (qgN 3) (qTest (qOp qGt (qCB qSum (qCons (qv 3) qNil)) (qc (.d (.int 0))))) (qv 3) [3]) qNil)) (qgN 2))
  (qRet (qTup (qCons (qv 1) (qCons (qSl false (qv 2) qNoPart (qPart (qc (.d (.int 5))))) qNil)))))))
/-- _law_quotient_place(generators, listing) slots: 0=generators 1=listing 2=place 3=g 4=ahead 5=number 6=a -/
def rd_law_quotient_place (sp_law_cut : SpD) (sp_law_least : SpD) : TDs :=
  (qSeq (qFor (qiRng1 (qCons (qCB qLen (qCons (qv 1) qNil)) qNil)) (qgN 2) (qSeq (qAsg (qOp qIx (qv 0) (qOp qIx (qv 1) (qv 2))) (qgN 3))
      (qSeq (qAsg (qLc false (qiSeq (qSl false (qv 1) qNoPart (qPart (qv 2)))) (qgN 5) qYes (qOp qIx (qv 0) (qv 5)) [5]) (qgN 4))
      (qSeq (qIfS (qTest (qOp qNe (qLc false (qiSeq (qv 4)) (qgN 6) (qTest (qOp qGt (qCB qSum (qCons (qv 6) qNil)) (qCB qSum (qCons (qv 3) qNil)))) (qv 6) [6]) (qLst false qNil))) (qRet (qv 2)) qNext)
      (qIfS (qTest (qOp qNe (qLc false (qiSeq (qCall sp_law_least (qCons (qLc false (qiSeq (qv 4)) (qgN 6) qYes (qCall sp_law_cut (qCons (qv 6) (qCons (qv 3) qNil))) [6]) qNil))) (qgN 6) (qTest (qOp qNe (qCB qSum (qCons (qv 6) qNil)) (qc (.d (.int 1))))) (qv 6) [6]) (qLst false qNil))) (qRet (qv 2)) qNext)))))
  (qRet (qc (.d .none))))
/-- law(script) slots: 0=script 1=k 2=m 3=n 4=generators 5=ideal 6=count 7=turn 8=listing 9=good 10=found 11=one -/
def rd_law (sp_law_begun : SpD) (sp_law_some_ideal : SpD) (sp_law_shuffled : SpD) (sp_quotient_breach : SpD) (sp_law_quotient_place : SpD) (sp_law_listings : SpD) (sp_quotient_listing : SpD) : TDs :=
  (qSeq (qFor (qiRng1 (qCons (qc (.d (.int 2))) qNil)) (qgN 1) (qSeq (qAsg (qCall sp_law_begun (qCons (qv 0) (qCons (qv 1) qNil))) (qgN 2))
      (qSeq (qAsg (qCall sp_law_some_ideal (qCons (qv 2) qNil)) (qgT 2 (qgCons (qgN 3) (qgCons (qgN 4) qgNil))))
      (qSeq (qPar 5 6 (qCons (qTup (qCons (qv 3) (qCons (qv 4) qNil))) (qCons (qCB qLen (qCons (qv 4) qNil)) qNil)))
      (qSeq (qFor (qiRng1 (qCons (qc (.d (.int 6))) qNil)) (qgN 7) (qSeq (qAsg (qCall sp_law_shuffled (qCons (qv 2) (qCons (qv 6) qNil))) (qgN 8))
          (qIfS (qTest (qOp qNeS (qCB qRepr (qCons (qCall sp_quotient_breach (qCons (qv 5) (qCons (qv 8) qNil))) qNil)) (qCB qRepr (qCons (qCall sp_law_quotient_place (qCons (qv 4) (qCons (qv 8) qNil))) qNil)))) (qRet (qc (.d (.bool false)))) qNext)))
      (qSeq (qAsg (qLc false (qiSeq (qCall sp_law_listings (qCons (qv 6) qNil))) (qgN 11) (qTest (qOp qIsN (qCall sp_law_quotient_place (qCons (qv 4) (qCons (qv 11) qNil))) (qc (.d .none)))) (qv 11) [11]) (qgN 9))
      (qSeq (qAsg (qCall sp_quotient_listing (qCons (qv 5) qNil)) (qgN 10))
      (qSeq (qIfS (qTest (qOp qNeS (qCB qRepr (qCons (qv 10) qNil)) (qCB qRepr (qCons (qIf (qTest (qOp qNe (qv 9) (qLst false qNil))) (qOp qIx (qv 9) (qc (.d (.int 0)))) (qc (.d .none))) qNil)))) (qRet (qc (.d (.bool false)))) qNext)
      (qIfS (qAndT (qTest (qOp qNotN (qv 10) (qc (.d .none)))) (qTest (qOp qNotN (qCall sp_quotient_breach (qCons (qv 5) (qCons (qv 10) qNil))) (qc (.d .none))))) (qRet (qc (.d (.bool false)))) qNext)))))))))
  (qSeq (qIfS (qOrT (qTest (qOp qNe (qCall sp_quotient_listing (qCons (qTup (qCons (qc (.d (.int 3))) (qCons (qTup qNil) qNil))) qNil)) (qTup qNil))) (qTest (qOp qNotN (qCall sp_quotient_breach (qCons (qTup (qCons (qc (.d (.int 3))) (qCons (qTup qNil) qNil))) (qCons (qTup qNil) qNil))) (qc (.d .none))))) (qRet (qc (.d (.bool false)))) qNext)
  (qRet (qOp qEq (qCall sp_quotient_listing (qCons (qTup (qCons (qc (.d (.int 2))) (qCons (qTup (qCons (qTup (qCons (qc (.d (.int 0))) (qCons (qc (.d (.int 0))) qNil))) qNil)) qNil))) qNil)) (qTup (qCons (qc (.d (.int 0))) qNil))))))
end RD
end
section
set_option linter.all false
set_option maxRecDepth 100000
set_option maxHeartbeats 1000000
open PySem L2 DL RD UC
local macro_rules | `(tactic| walk_at "E") => `(tactic| (try simp only [qAsg, qRet, qDrop, qIfS, qTest, qAndT, qOrT, qNotT, qAndV, qOrV, qNotV, qIf, qOp, qUn, qChain, onB, qv, qc, qgN, qgT, qgCons, qgNil, qCons, qNil, qTup, qLst, qPar, qPar3, qAug, qCB, qCall, qLen, qTupleC, qListC, qMax2, qMin2, qIntC, qSum, qAny, qAll, qIsi, tyName, qAdd, qSub, qMul, qFdiv, qMod, qPow, qI2, qCmpI, qEq, qNe, qLt, qLe, qGt, qGe, qNeg, qIx, qDGet, qDIn, qDPut, qSl, qPart, qNoPart, qNext, qFor, qiSeq, qiRng1, qiRng2, qiZip, qiEnum, qLc, seqSrc, lsrc, titems, litems, sitems, fz, newL, List.getElem?_cons_zero, List.getElem?_cons_succ, List.set_cons_zero, List.set_cons_succ, if_true, if_false, Bool.false_eq_true, ite_true, ite_false, up_same, reduceIte, decide_true, decide_false, true_and, and_true]))
local macro_rules | `(tactic| walk_at "D") => `(tactic| (try simp only [qAsg, qRet, qDrop, qIfS, qTest, qAndT, qOrT, qNotT, qAndV, qOrV, qNotV, qIf, qOp, qUn, qChain, onB, qv, qc, qgN, qgT, qgCons, qgNil, qCons, qNil, qTup, qLst, qPar, qPar3, qAug, qCB, qCall, qLen, qTupleC, qListC, qMax2, qMin2, qIntC, qSum, qAny, qAll, qIsi, tyName, qAdd, qSub, qMul, qFdiv, qMod, qPow, qI2, qCmpI, qEq, qNe, qLt, qLe, qGt, qGe, qNeg, qIx, qDGet, qDIn, qDPut, qSl, qPart, qNoPart, qNext, qFor, qiSeq, qiRng1, qiRng2, qiZip, qiEnum, qLc, seqSrc, lsrc, titems, litems, sitems, fz, newL, List.getElem?_cons_zero, List.getElem?_cons_succ, List.set_cons_zero, List.set_cons_succ, if_true, if_false, Bool.false_eq_true, ite_true, ite_false, up_same, reduceIte, decide_true, decide_false, true_and, and_true, eqv_int, eqv_bool, eqv_TI, eqv_LI, eqv_TT, eqv_LT, eqv_nilL, eqv_nilT, shaped_TI, shaped_LI, shaped_TT, shaped_LT, shaped_int, shaped_bool, shaped_nilL, shaped_nilT, dints_map2, dbools_map2, datas_map, mkT_map, mkT_0, mkT_1, mkT_2, mkT_3, List.length_map, List.length_cons, List.length_nil, List.length_append, List.map_cons, List.map_nil, wipeD, Bool.not_true, Bool.not_false, eq_self, not_true_eq_false, not_false_eq_true, kitB_tt, kitB_ll, kitB_dd, kitB_bb, kitB_ib, kitB_ii, kitB_ss, kitB_tl, kitB_lt, Function.comp, datas, Option.map_some, List.cons_append, List.nil_append, CPow, le_size4, Int.toNat_natCast, rngD0, I_eq, Bo_eq, BS.qSortB, in_IT, in_IL, in_TT, in_TL, qNotN, qIsN, qSortD, qListRg, qDispT, keyX_TI, qGet, qiItems, qLockE, qLockS, qPop, qMaxDf, qLPut, qDNew, qListItems, qListDK, qLc2, qMax1, qMin1, qAppend, qExtend, tints_TI, dv_TI, Option.bind_some, qRetN, atI_0, atI_1, atI_2, mk_appT, mk_snocI, idl, rep_I, Option.map_none, eqv_idl, shaped_idl, Bool.and_self, Bool.true_and, Bool.and_true]))
local macro_rules | `(tactic| walk_at "F") => `(tactic| (try simp only [qAsg, qRet, qDrop, qIfS, qTest, qAndT, qOrT, qNotT, qAndV, qOrV, qNotV, qIf, qOp, qUn, qChain, onB, qv, qc, qgN, qgT, qgCons, qgNil, qCons, qNil, qTup, qLst, qPar, qPar3, qAug, qCB, qCall, qLen, qTupleC, qListC, qMax2, qMin2, qIntC, qSum, qAny, qAll, qIsi, tyName, qAdd, qSub, qMul, qFdiv, qMod, qPow, qI2, qCmpI, qEq, qNe, qLt, qLe, qGt, qGe, qNeg, qIx, qDGet, qDIn, qDPut, qSl, qPart, qNoPart, qNext, qFor, qiRng1, qiRng2, qiZip, qiEnum, qLc, fz, newL, List.getElem?_cons_zero, List.getElem?_cons_succ, List.set_cons_zero, List.set_cons_succ, if_true, if_false, Bool.false_eq_true, ite_true, ite_false, up_same, reduceIte, decide_true, decide_false, true_and, and_true, eqv_int, eqv_bool, eqv_TI, eqv_LI, eqv_TT, eqv_LT, eqv_nilL, eqv_nilT, shaped_TI, shaped_LI, shaped_TT, shaped_LT, shaped_int, shaped_bool, shaped_nilL, shaped_nilT, dints_map2, dbools_map2, datas_map, mkT_map, mkT_0, mkT_1, mkT_2, mkT_3, List.length_map, List.length_cons, List.length_nil, List.length_append, List.map_cons, List.map_nil, wipeD, Bool.not_true, Bool.not_false, eq_self, not_true_eq_false, not_false_eq_true, kitB_tt, kitB_ll, kitB_dd, kitB_bb, kitB_ib, kitB_ii, kitB_ss, kitB_tl, kitB_lt, Function.comp, datas, Option.map_some, List.cons_append, List.nil_append, CPow, le_size4, Int.toNat_natCast, rngD0, I_eq, Bo_eq, BS.qSortB, in_IT, in_IL, in_TT, in_TL, qNotN, qIsN, qSortD, qListRg, qDispT, keyX_TI, qGet, qiItems, qLockE, qLockS, qPop, qMaxDf, qLPut, qDNew, qListItems, qListDK, qLc2, qMax1, qMin1, qAppend, qExtend, tints_TI, dv_TI, Option.bind_some, qRetN, atI_0, atI_1, atI_2, mk_appT, mk_snocI, idl, rep_I, Option.map_none, eqv_idl, shaped_idl, Bool.and_self, Bool.true_and, Bool.and_true]))
namespace U
open PySem L2 DL RD UC CpComb
def Gat (G : List (List Int)) (x : Int) : List Int := G.getD x.toNat []
def cutsL (G : List (List Int)) (a : List Int) (x : Int) : List (List Int) := a.map fun y => cutL (Gat G y) (Gat G x)
def folQ (G : List (List Int)) : Fol := fun a x => (a.all fun y => !decide ((Gat G x).sum < (Gat G y).sum)) && (minL (cutsL G a x)).all fun m => decide (m.sum = 1)
theorem minL_congr {S S' : List (List Int)} (h : ∀ x, x ∈ S ↔ x ∈ S') : minL S = minL S' := by
  unfold minL
  rw [show sortU S = sortU S' from ris_eq (ris_sortU _) (ris_sortU _) fun x => by rw [mem_sortU, mem_sortU, h x]]
theorem folQ_set (G : List (List Int)) : FolS (folQ G) := fun a b x h => by
  unfold folQ
  have e1 : minL (cutsL G a x) = minL (cutsL G b x) := minL_congr fun z => by
    unfold cutsL
    rw [List.mem_map, List.mem_map]
    exact exists_congr fun y => and_congr_left fun _ => h y
  rw [e1]
  congr 1
  rw [Bool.eq_iff_iff, List.all_eq_true, List.all_eq_true]
  exact ⟨fun hh y hy => hh y ((h y).mpr hy), fun hh y hy => hh y ((h y).mp hy)⟩
structure GOk (n : Nat) (G : List (List Int)) : Prop where
  n1 : 1 ≤ n
  n4 : n ≤ 4
  len : G.length ≤ 5
  mon : ∀ g ∈ G, Mon n 4 g
theorem GOk.gat {n : Nat} {G : List (List Int)} (h : GOk n G) {x : Int} (hx : 0 ≤ x ∧ x < (G.length : Int)) : Mon n 4 (Gat G x) := by
  unfold Gat
  have hj : x.toNat < G.length := by omega
  rw [List.getD_eq_getElem?_getD, List.getElem?_eq_getElem hj]
  exact h.mon _ (List.getElem_mem _)
theorem atI_gat {G : List (List Int)} {x : Int} (h : 0 ≤ x ∧ x < (G.length : Int)) : atI ((G.map TI).map DV.d) x = some (.d (TI (Gat G x))) := by
  obtain ⟨j, rfl⟩ : ∃ j : Nat, x = (j : Int) := ⟨x.toNat, by omega⟩
  have hj : j < G.length := by omega
  refine atI_nat (j := j) ?_
  unfold Gat
  rw [List.getElem?_map, List.getElem?_map, List.getElem?_eq_getElem hj, Int.toNat_natCast, List.getD_eq_getElem?_getD, List.getElem?_eq_getElem hj]
  rfl
theorem mon_cut4 {n : Nat} {a b : List Int} (ha : Mon n 4 a) (hb : Mon n 4 b) : Mon n 4 (cutL a b) := by
  refine ⟨len_zw ha.1 hb.1, fun x hx => ?_⟩
  obtain ⟨j, hj, rfl⟩ := List.mem_iff_getElem.mp hx
  have hl : (cutL a b).length = n := len_zw ha.1 hb.1
  rw [gd_eq hj]
  have hjn : j < n := by rw [← hl]; exact hj
  have e : gd (cutL a b) j = max (gd a j - gd b j) 0 := gd_zw ha.1 hb.1 hjn
  rw [e]
  have h1 := ha.2 _ (gd_mem (j := j) (by rw [ha.1]; exact hjn))
  have h2 := hb.2 _ (gd_mem (j := j) (by rw [hb.1]; exact hjn))
  omega
theorem mon_cuts {n : Nat} {G : List (List Int)} (h : GOk n G) {a : List Int} (ha : Low G.length a) {x : Int} (hx : 0 ≤ x ∧ x < (G.length : Int)) : ∀ t ∈ cutsL G a x, Mon n 4 t := fun t ht => by
  obtain ⟨y, hy, rfl⟩ := List.mem_map.mp ht
  exact mon_cut4 (h.gat (ha y hy)) (h.gat hx)
def optN : Option Nat → PyData
  | none => .none
  | some n => .int (n : Int)
theorem plF_drop {fol : Fol} {l : List Int} {i : Nat} {x : Int} (hi : l[i]? = some x) : plF fol (l.take i) (l.drop i) = if fol (l.take i) x = true then plF fol (l.take (i + 1)) (l.drop (i + 1)) else some i := by
  obtain ⟨h, e⟩ := List.getElem?_eq_some_iff.mp hi
  rw [List.drop_eq_getElem_cons h, e, List.take_succ, hi]
  show (if fol (l.take i) x = true then plF fol (l.take i ++ [x]) (l.drop (i + 1)) else some (l.take i).length) = _
  rw [List.length_take, Nat.min_eq_left (Nat.le_of_lt h)]
  rfl
theorem enum_dv (l : List Int) : enumD ((l.map PyData.int).map DV.d) = l.zipIdx.map fun p => DV.d (.tuple [.int p.2, .int p.1]) := enumD_of PyData.int l
theorem take_snoc {l : List Int} {i : Nat} {x : Int} (h : l[i]? = some x) : l.take (i + 1) = l.take i ++ [x] := by
  rw [List.take_succ, h]
  rfl
theorem Le.draw {st st' : Sto} {m : Addr} {B : Nat} (h : Le st st') (D : DrawSt st m B) : DrawSt st' m B := by
  obtain ⟨l, s, c, p, h1, h2⟩ := D
  exact ⟨l, s, c, p, h _ _ h1, h2⟩
theorem ok_int {i : Int} (h : 0 ≤ i ∧ i ≤ 6) : reprOk (.int i) := (shw_int h).ok (by decide) (by simp only [PyData.depth]; omega)
theorem ok_none : reprOk .none := by
  refine ⟨by simp only [PyData.showable], by simp only [PyData.hasDict], by simp only [PyData.depth]; omega, ?_⟩
  decide +kernel
theorem ok_optN {o : Option Nat} (h : ∀ n, o = some n → n ≤ 6) : reprOk (optN o) := by
  cases o with
  | none => exact ok_none
  | some n => exact ok_int ⟨by omega, by have := h n rfl; omega⟩
theorem plF_le {fol : Fol} : ∀ {r p : List Int} {n : Nat}, plF fol p r = some n → n < p.length + r.length
  | [], _, _, h => nomatch h
  | x :: r, p, n, h => by
    have h : (if fol p x = true then plF fol (p ++ [x]) r else some p.length) = some n := h
    rw [List.length_cons]
    split at h
    · have := plF_le h
      rw [List.length_append, List.length_singleton] at this
      omega
    · cases h
      omega
def optI : Option (List Int) → PyData
  | none => .none
  | some r => TI r
theorem opt_dv (o : Option (List Int)) : optD o = .d (optI o) := by cases o <;> rfl
theorem grd_low {c : Nat} {fol : Fol} : ∀ {k : Nat} {p r : List Int}, grd c fol k p = some r → r.length = k ∧ ∀ x ∈ r, 0 ≤ x ∧ x < (c : Int)
  | 0, p, r, h => by
    cases h
    exact ⟨rfl, fun x h => (nomatch h)⟩
  | k + 1, p, r, h => by
    obtain ⟨x, r', h1, rfl, h3⟩ := grd_step h
    have hx := (mem_stF.mp (List.mem_filter.mp (List.mem_of_mem_head? (by rw [h1]; rfl))).1).1.1
    obtain ⟨g1, g2⟩ := grd_low h3
    refine ⟨by rw [List.length_cons, g1], fun y hy => ?_⟩
    rcases List.mem_cons.mp hy with z | z
    · rw [z]
      exact hx
    · exact g2 y z
theorem ok_optI {o : Option (List Int)} (h : ∀ r, o = some r → r.length ≤ 6 ∧ ∀ x ∈ r, 0 ≤ x ∧ x < 6) : reprOk (optI o) := by
  cases o with
  | none => exact ok_none
  | some r =>
    obtain ⟨h1, h2⟩ := h r rfl
    refine (shw_TI ⟨by omega, fun y hy => by have := h2 y hy; constructor <;> omega⟩).ok (by decide) ?_
    have : (TI r).depth ≤ 1 := (sh_TI (n := 0)).2
    show (TI r).depth ≤ 16
    omega
def goodL (c : Nat) (fol : Fol) : List (List Int) := (lvl c c).filter fun l => (plF fol [] l).isNone
def sp_cut_ahead : SpD := fun xs st Q => ∃ (n : Nat) (G : List (List Int)) (a : List Int) (x : Int), xs = [.d (TT G), .d (TI a), I x] ∧ GOk n G ∧ a.length ≤ 60 ∧ Low G.length a ∧ (0 ≤ x ∧ x < (G.length : Int)) ∧
  ∀ (p : Addr) st', st p = none → st' p = some (.lst (((minL (cutsL G a x)).map TI).map .d)) → (∀ b, b ≠ p → st' b = st b) → Q (.r p) st'
theorem len_cut_ahead : ∀ xs st Q, sp_cut_ahead xs st Q → xs.length = 3 := by rintro xs st Q ⟨n, G, a, x, rfl, _⟩; rfl
theorem sem_cut_ahead : ∀ xs st Q, sp_cut_ahead xs st Q → rd_cut_ahead sp_cut sp_least_ones { nx := fun _ st' => Fg Q (.d .none) st', rt := Fg Q } (startD 4 xs) st := by
  rintro xs st Q ⟨n, G, a, x, rfl, hG, hal, ha, hx, K⟩
  have e0 : startD 4 [.d (TT G), .d (TI a), I x] = [some (.d (TT G)), some (.d (TI a)), some (I x), none] := rfl
  rw [e0]
  unfold rd_cut_ahead
  walk_at "D"
  refine ⟨by rw [sizeL]; omega, ?_⟩
  rw [List.map_map]
  refine comp_mapT _ (fun y => .d (TI (cutL (Gat G y) (Gat G x)))) trivial _ _ ?_ ?_
  · intro y hy Q1 h
    walk_at "D"
    simp only [atI_gat (ha y hy), atI_gat hx]
    exact ⟨_, _, rfl, by have h1 := (hG.gat (ha y hy)).1; have := hG.n4; omega, h⟩
  rw [show ([] : List DV) ++ a.map (fun y => DV.d (TI (cutL (Gat G y) (Gat G x)))) = ((cutsL G a x).map TI).map .d by unfold cutsL; rw [List.nil_append, List.map_map, List.map_map]; rfl]
  walk_at "D"
  have n1 := hG.n1
  have n4 := hG.n4
  refine ⟨_, cutsL G a x, n, 4, rfl, rfl, ⟨n1, by omega, by unfold cutsL; rw [List.length_map]; omega, mon_cuts hG ha hx⟩, fun p s hp hs fr => ?_⟩
  exact fg_ret (K p s hp hs fr)
def sp_follows : SpD := fun xs st Q => ∃ (n : Nat) (G : List (List Int)) (a : List Int) (x : Int), xs = [.d (TT G), .d (TI a), I x] ∧ GOk n G ∧ a.length ≤ 60 ∧ Low G.length a ∧ (0 ≤ x ∧ x < (G.length : Int)) ∧ Q (Bo (folQ G a x)) st
theorem len_follows : ∀ xs st Q, sp_follows xs st Q → xs.length = 3 := by rintro xs st Q ⟨n, G, a, x, rfl, _⟩; rfl
theorem sem_follows : ∀ xs st Q, sp_follows xs st Q → rd_follows sp_degree_of sp_cut_ahead { nx := fun _ st' => Fg Q (.d .none) st', rt := Fg Q } (startD 6 xs) st := by
  rintro xs st Q ⟨n, G, a, x, rfl, hG, hal, ha, hx, K⟩
  have e0 : startD 6 [.d (TT G), .d (TI a), I x] = [some (.d (TT G)), some (.d (TI a)), some (I x), none, none, none] := rfl
  rw [e0]
  unfold rd_follows
  unfold folQ at K
  refine seq fun N hN => ?_
  walk_at "D"
  simp only [atI_gat hx]
  refine ⟨Gat G x, rfl, ?_⟩
  refine hN _ _ ?_; clear hN N
  refine seq fun N hN => ?_
  walk_at "D"
  rw [List.map_map]
  refine for_byT _ (fun i ε s => s = st ∧ (∃ y4, ε = [some (.d (TT G)), some (.d (TI a)), some (I x), some (I (Gat G x).sum), y4, none]) ∧ ∀ y ∈ a.take i, (!decide ((Gat G x).sum < (Gat G y).sum)) = true) ⟨rfl, ⟨_, rfl⟩, fun y h => by rw [List.take_zero] at h; cases h⟩ (fun _ _ _ _ => trivial) ?_ ?_
  · rintro i y ε s hi ⟨rfl, ⟨y4, rfl⟩, hall⟩ L hL
    have hy := List.mem_of_getElem? hi
    walk_at "D"
    simp only [atI_gat (ha y hy)]
    refine ⟨Gat G y, rfl, ?_⟩
    walk_at "D"
    by_cases c : (Gat G x).sum < (Gat G y).sum
    · simp only [c, decide_true, if_true]
      have : (a.all fun y => !decide ((Gat G x).sum < (Gat G y).sum)) = false := by
        rw [List.all_eq_false]
        exact ⟨y, hy, by rw [decide_eq_true c]; decide⟩
      rw [this, Bool.false_and] at K
      exact fg_ret K
    · simp only [c, decide_false, Bool.false_eq_true, if_false]
      refine hL _ _ ⟨rfl, ⟨_, rfl⟩, fun z hz => ?_⟩
      rw [take_snoc hi] at hz
      rcases List.mem_append.mp hz with q | q
      · exact hall z q
      · rw [List.mem_singleton.mp q, decide_eq_false c]
        rfl
  · rintro ε s ⟨rfl, ⟨y4, rfl⟩, hall⟩
    rw [List.take_length] at hall
    refine hN _ _ ?_; clear hN N
    have e1 : (a.all fun y => !decide ((Gat G x).sum < (Gat G y).sum)) = true := List.all_eq_true.mpr hall
    rw [e1, Bool.true_and] at K
    walk_at "D"
    refine ⟨n, G, a, x, rfl, hG, hal, ha, hx, fun p s1 hp hs1 fr => ?_⟩
    have hml : (minL (cutsL G a x)).length ≤ 60 := Nat.le_trans (min_len _) (by unfold cutsL; rw [List.length_map]; exact hal)
    walk_at "D"
    simp only [hs1]
    walk_at "D"
    refine ⟨by rw [sizeL]; omega, ?_⟩
    rw [TIs_dv]
    refine comp_mapT _ (fun (m : List Int) => Bo (decide (m.sum = 1))) (by rw [← TIs_dv]; exact hs1) _ _ ?_ ?_
    · intro m hm Q1 h
      walk_at "D"
      refine ⟨m, rfl, ?_⟩
      walk_at "D"
      exact h
    rw [show ([] : List DV) ++ (minL (cutsL G a x)).map (fun (m : List Int) => Bo (decide (m.sum = 1))) = (((minL (cutsL G a x)).map fun (m : List Int) => decide (m.sum = 1)).map PyData.bool).map .d by rw [List.nil_append, List.map_map, List.map_map]; rfl]
    walk_at "D"
    have ea : ((minL (cutsL G a x)).map fun (m : List Int) => decide (m.sum = 1)).all id = (minL (cutsL G a x)).all fun m => decide (m.sum = 1) := by rw [List.all_map]; rfl
    rw [ea]
    refine fg_le (fun b m e => ?_) K
    have : b ≠ p := fun z => by rw [z, hp] at e; cases e
    rw [fr b this]
    exact e
def sp_quotient_breach : SpD := fun xs st Q => ∃ (n : Nat) (G : List (List Int)) (l : List Int), xs = [.d (idl n G), .d (TI l)] ∧ GOk n G ∧ l.length ≤ 60 ∧ Low G.length l ∧ Q (.d (optN (plF (folQ G) [] l))) st
theorem len_quotient_breach : ∀ xs st Q, sp_quotient_breach xs st Q → xs.length = 2 := by rintro xs st Q ⟨n, G, l, rfl, _⟩; rfl
theorem sem_quotient_breach : ∀ xs st Q, sp_quotient_breach xs st Q → rd_quotient_breach sp_follows { nx := fun _ st' => Fg Q (.d .none) st', rt := Fg Q } (startD 4 xs) st := by
  rintro xs st Q ⟨n, G, l, rfl, hG, hl, hlow, K⟩
  have e0 : startD 4 [.d (idl n G), .d (TI l)] = [some (.d (idl n G)), some (.d (TI l)), none, none] := rfl
  rw [e0]
  unfold rd_quotient_breach
  refine seq fun N hN => ?_
  walk_at "D"
  rw [enum_dv]
  refine for_byT _ (fun i ε s => s = st ∧ (∃ y2 y3, ε = [some (.d (idl n G)), some (.d (TI l)), y2, y3]) ∧ plF (folQ G) [] l = plF (folQ G) (l.take i) (l.drop i)) ⟨rfl, ⟨_, _, rfl⟩, rfl⟩ (fun _ _ _ _ => trivial) ?_ ?_
  · rintro i z ε s hi ⟨rfl, ⟨y2, y3, rfl⟩, hp⟩ L hL
    obtain ⟨x, j⟩ := z
    have hz := List.getElem?_zipIdx (l := l) (i := 0) (j := i)
    rw [hz] at hi
    obtain ⟨y, hy, e⟩ := Option.map_eq_some_iff.mp hi
    cases e
    rw [plF_drop hy] at hp
    walk_at "D"
    simp only [Nat.zero_add]
    rw [cutD_take, ← List.map_take, ← List.map_take, mkT_map]
    refine ⟨n, G, l.take i, x, rfl, hG, by rw [List.length_take]; omega, fun y hy => hlow y (List.mem_of_mem_take hy), hlow x (List.mem_of_getElem? hy), ?_⟩
    cases e : folQ G (l.take i) x with
    | true =>
      rw [e, if_pos rfl] at hp
      walk_at "D"
      exact hL _ _ ⟨rfl, ⟨_, _, rfl⟩, hp⟩
    | false =>
      rw [e, if_neg Bool.false_ne_true] at hp
      rw [hp] at K
      walk_at "D"
      exact fg_ret K
  · rintro ε s ⟨rfl, ⟨y2, y3, rfl⟩, hp⟩
    rw [List.length_zipIdx, List.take_length, List.drop_length] at hp
    refine hN _ _ ?_
    rw [hp] at K
    walk_at "D"
    exact fg_ret K
def sp_law_quotient_place : SpD := fun xs st Q => ∃ (n : Nat) (G : List (List Int)) (l : List Int), xs = [.d (TT G), .d (TI l)] ∧ GOk n G ∧ l.length ≤ 60 ∧ Low G.length l ∧ Q (.d (optN (plF (folQ G) [] l))) st
theorem len_law_quotient_place : ∀ xs st Q, sp_law_quotient_place xs st Q → xs.length = 2 := by rintro xs st Q ⟨n, G, l, rfl, _⟩; rfl
theorem sem_law_quotient_place : ∀ xs st Q, sp_law_quotient_place xs st Q → rd_law_quotient_place sp_law_cut sp_law_least { nx := fun _ st' => Fg Q (.d .none) st', rt := Fg Q } (startD 7 xs) st := by
  rintro xs st Q ⟨n, G, l, rfl, hG, hl, hlow, K⟩
  have e0 : startD 7 [.d (TT G), .d (TI l)] = [some (.d (TT G)), some (.d (TI l)), none, none, none, none, none] := rfl
  rw [e0]
  unfold rd_law_quotient_place
  have ss : ∀ {n : Nat}, n ≤ 3000 → n ≤ sizeLine := fun h => by rw [sizeL]; omega
  have n1 := hG.n1
  have n4 := hG.n4
  refine seq fun N hN => ?_
  walk_at "D"
  refine ⟨by omega, by omega, ?_⟩
  walk_at "D"
  refine for_byT _ (fun i ε s => s = st ∧ (∃ y2 y3 y4, ε = [some (.d (TT G)), some (.d (TI l)), y2, y3, y4, none, none]) ∧ plF (folQ G) [] l = plF (folQ G) (l.take i) (l.drop i)) ⟨rfl, ⟨_, _, _, rfl⟩, rfl⟩ (fun _ _ _ _ => trivial) ?_ ?_
  · rintro i k ε s hi ⟨rfl, ⟨y2, y3, y4, rfl⟩, hp⟩ L hL
    obtain ⟨rfl, hil⟩ := range_some hi
    obtain ⟨x, hx⟩ : ∃ x, l[k]? = some x := ⟨_, List.getElem?_eq_getElem hil⟩
    have hxl := hlow x (List.mem_of_getElem? hx)
    rw [plF_drop hx] at hp
    have ax : atI ((l.map PyData.int).map DV.d) (k : Int) = some (I x) := atI_nat (j := k) (by rw [List.getElem?_map, List.getElem?_map, hx]; rfl)
    have tl : (l.take k).length ≤ 60 := by rw [List.length_take]; omega
    have tw : Low G.length (l.take k) := fun y hy => hlow y (List.mem_of_mem_take hy)
    have mx := hG.gat hxl
    refine seq fun N2 hN2 => ?_
    walk_at "D"
    simp only [ax, atI_gat hxl]
    refine hN2 _ _ ?_; clear hN2 N2
    refine seq fun N2 hN2 => ?_
    walk_at "D"
    rw [cutD_take, ← List.map_take, ← List.map_take, mkT_map]
    walk_at "D"
    refine ⟨ss (by omega), ?_⟩
    rw [List.map_map]
    refine comp_mapT _ (fun y => .d (TI (Gat G y))) trivial _ _ ?_ ?_
    · intro y hy Q1 h
      walk_at "D"
      simp only [atI_gat (tw y hy)]
      exact h
    rw [show ([] : List DV) ++ (l.take k).map (fun y => DV.d (TI (Gat G y))) = (((l.take k).map (Gat G)).map TI).map .d by rw [List.nil_append, List.map_map, List.map_map]; rfl]
    walk_at "D"
    refine hN2 _ _ ?_; clear hN2 N2
    have al : ((l.take k).map (Gat G)).length ≤ 60 := by rw [List.length_map]; exact tl
    have am : ∀ t ∈ (l.take k).map (Gat G), Mon n 4 t := fun t ht => by
      obtain ⟨y, hy, rfl⟩ := List.mem_map.mp ht
      exact hG.gat (tw y hy)
    refine seq fun N2 hN2 => ?_
    walk_at "D"
    refine ⟨ss (by omega), ?_⟩
    rw [TIs_dv]
    refine comp_fmT _ (fun (t : List Int) => decide ((Gat G x).sum < t.sum)) (fun t => .d (TI t)) trivial _ _ ?_ ?_
    · intro t ht Q1 Q2 h
      walk_at "D"
      exact h
    rw [show ([] : List DV) ++ (((l.take k).map (Gat G)).filter fun (t : List Int) => decide ((Gat G x).sum < t.sum)).map (fun t => DV.d (TI t)) = ((((l.take k).map (Gat G)).filter fun (t : List Int) => decide ((Gat G x).sum < t.sum)).map TI).map .d by rw [List.nil_append, List.map_map]; rfl]
    walk_at "D"
    refine ⟨by decide, ?_⟩
    have ef : decide (((l.take k).map (Gat G)).filter (fun (t : List Int) => decide ((Gat G x).sum < t.sum)) = []) = (l.take k).all fun y => !decide ((Gat G x).sum < (Gat G y).sum) := by
      rw [Bool.eq_iff_iff, decide_eq_true_eq, List.filter_eq_nil_iff, List.all_eq_true]
      constructor
      · intro h y hy
        have := h _ (List.mem_map.mpr ⟨y, hy, rfl⟩)
        simpa using this
      · intro h t ht
        obtain ⟨y, hy, rfl⟩ := List.mem_map.mp ht
        have := h y hy
        simpa using this
    rw [ef]
    unfold folQ at hp
    cases e1 : (l.take k).all fun y => !decide ((Gat G x).sum < (Gat G y).sum) with
    | false =>
      rw [e1, Bool.false_and, if_neg Bool.false_ne_true] at hp
      have hK := K
      unfold folQ at hK
      rw [hp] at hK
      walk_at "D"
      exact fg_ret hK
    | true =>
      rw [e1, Bool.true_and] at hp
      walk_at "D"
      refine hN2 _ _ ?_; clear hN2 N2
      walk_at "D"
      refine ⟨ss (by omega), ?_⟩
      rw [TIs_dv]
      refine comp_mapT _ (fun t => .d (TI (cutL t (Gat G x)))) trivial _ _ ?_ ?_
      · intro t ht Q1 h
        walk_at "D"
        exact ⟨t, Gat G x, n, rfl, (am t ht).1, mx.1, by omega, h⟩
      rw [show ([] : List DV) ++ ((l.take k).map (Gat G)).map (fun t => DV.d (TI (cutL t (Gat G x)))) = ((cutsL G (l.take k) x).map TI).map .d by unfold cutsL; rw [List.nil_append, List.map_map, List.map_map, List.map_map]; rfl]
      walk_at "D"
      have cl : (cutsL G (l.take k) x).length ≤ 60 := by unfold cutsL; rw [List.length_map]; exact tl
      refine ⟨_, cutsL G (l.take k) x, n, 4, rfl, rfl, ⟨n1, by omega, by omega, mon_cuts hG tw hxl⟩, ?_⟩
      have ml := min_len (cutsL G (l.take k) x)
      walk_at "D"
      refine ⟨ss (by omega), ?_⟩
      rw [TIs_dv]
      refine comp_fmT _ (fun (t : List Int) => !decide (t.sum = 1)) (fun t => .d (TI t)) trivial _ _ ?_ ?_
      · intro t ht Q1 Q2 h
        walk_at "D"
        exact h
      rw [show ([] : List DV) ++ ((minL (cutsL G (l.take k) x)).filter fun (t : List Int) => !decide (t.sum = 1)).map (fun t => DV.d (TI t)) = (((minL (cutsL G (l.take k) x)).filter fun (t : List Int) => !decide (t.sum = 1)).map TI).map .d by rw [List.nil_append, List.map_map]; rfl]
      walk_at "D"
      refine ⟨by decide, ?_⟩
      have eg : decide ((minL (cutsL G (l.take k) x)).filter (fun (t : List Int) => !decide (t.sum = 1)) = []) = (minL (cutsL G (l.take k) x)).all fun m => decide (m.sum = 1) := by
        rw [Bool.eq_iff_iff, decide_eq_true_eq, List.filter_eq_nil_iff, List.all_eq_true]
        refine forall_congr' fun t => forall_congr' fun _ => ?_
        simp
      rw [eg]
      cases e2 : (minL (cutsL G (l.take k) x)).all fun m => decide (m.sum = 1) with
      | false =>
        rw [e2, if_neg Bool.false_ne_true] at hp
        have hK := K
        unfold folQ at hK
        rw [hp] at hK
        walk_at "D"
        exact fg_ret hK
      | true =>
        rw [e2, if_pos rfl] at hp
        walk_at "D"
        exact hL _ _ ⟨rfl, ⟨_, _, _, rfl⟩, hp⟩
  · rintro ε s ⟨rfl, ⟨y2, y3, y4, rfl⟩, hp⟩
    rw [List.length_range, List.take_length, List.drop_length] at hp
    refine hN _ _ ?_
    rw [hp] at K
    walk_at "D"
    exact fg_ret K
def sp_quotient_listing : SpD := fun xs st Q => ∃ (n : Nat) (F : List (List Int)), xs = [.d (idl n F)] ∧ GOk n F ∧ Q (optD (grd F.length (folQ F) F.length [])) st
theorem len_quotient_listing : ∀ xs st Q, sp_quotient_listing xs st Q → xs.length = 1 := by rintro xs st Q ⟨n, F, rfl, _⟩; rfl
theorem sem_quotient_listing : ∀ xs st Q, sp_quotient_listing xs st Q → rd_quotient_listing sp_lots_of sp_follows sp_least_listing { nx := fun _ st' => Fg Q (.d .none) st', rt := Fg Q } (startD 6 xs) st := by
  rintro xs st Q ⟨n, F, rfl, hF, K⟩
  have e0 : startD 6 [.d (idl n F)] = [some (.d (idl n F)), none, none, none, none, none] := rfl
  rw [e0]
  unfold rd_quotient_listing
  have h5 := hF.len
  obtain ⟨c, hc⟩ : ∃ c, c = F.length := ⟨_, rfl⟩
  rw [← hc] at K h5
  have p7 := pow7 (c := c) (by omega)
  refine seq fun N hN => ?_
  walk_at "D"
  refine hN _ _ ?_; clear hN N
  refine seq fun N hN => ?_
  walk_at "D"
  rw [← hc]
  refine hN _ _ ?_; clear hN N
  refine seq fun N hN => ?_
  walk_at "D"
  have hno : ¬ (7 : Int) < (c : Int) := by omega
  simp only [hno, decide_false, Bool.false_eq_true, if_false]
  refine hN _ _ ?_; clear hN N
  refine seq fun N hN => ?_
  walk_at "D"
  refine fun p hp => hN _ _ ?_; clear hN N
  refine seq fun N hN => ?_
  walk_at "D"
  refine ⟨c, rfl, by omega, fun q s1 hq hs1 fr1 => ?_⟩
  have hqp : q ≠ p := fun e => by rw [e, up_same] at hq; cases hq
  have hp1 : s1 p = some (.dT (tabD [])) := by rw [fr1 p (Ne.symm hqp)]; exact up_same
  have hln : (lotsN c (c + 1)).length ≤ 128 * 8 := Nat.le_trans (len_lots c (c + 1)) (Nat.mul_le_mul p7 (by omega))
  walk_at "D"
  simp only [hs1]
  rw [TIs_dv]
  refine for_byT _ (fun i ε s => (∃ y3, ε = [some (.d (idl n F)), some (.d (TT F)), some (I c), some (.r p), y3, none]) ∧ (∀ b, b ≠ p → s b = s1 b) ∧ ∃ t : List (List Int × DV), s p = some (.dT (tabD t)) ∧ t.length ≤ i ∧ ∀ u ∈ (lotsN c (c + 1)).take i, lookT t u = some (.d (LI (stF c (folQ F) u)))) ⟨⟨_, rfl⟩, fun b hb => rfl, [], hp1, Nat.zero_le _, fun u h => by rw [List.take_zero] at h; cases h⟩ (fun i ε s h => by
    show s q = _
    rw [h.2.1 q hqp, hs1, TIs_dv]) ?_ ?_
  · rintro i lot ε s hi ⟨⟨y3, rfl⟩, fr, t, ht, htl, hall⟩ L hL
    obtain ⟨hi', _⟩ := List.getElem?_eq_some_iff.mp hi
    obtain ⟨u1, u2⟩ := mem_lots.mp (List.mem_of_getElem? hi)
    have ul := asc_long u1 u2
    walk_at "D"
    refine ⟨by omega, by omega, by rw [List.length_range, sizeL]; omega, ?_⟩
    rw [show (List.range c).map (fun (j : Nat) => DV.d (.int (j : Int))) = (rangeI c).map fun k => I k by unfold rangeI; rw [List.map_map]; rfl]
    refine comp_fmT _ (fun x => !decide (x ∈ lot) && folQ F lot x) (fun x => I x) trivial _ _ ?_ ?_
    · intro x hx Q1 Q2 h
      have hx := mem_rngV.mp hx
      walk_at "D"
      by_cases c1 : x ∈ lot
      · simp only [c1, decide_true, Bool.not_true, Bool.false_and, Bool.false_eq_true, if_false] at h ⊢
        exact h
      · simp only [c1, decide_false, Bool.not_false, Bool.true_and, if_true] at h ⊢
        refine ⟨n, F, lot, x, rfl, hF, by omega, by rw [← hc]; exact u2, by rw [← hc]; exact hx, ?_⟩
        walk_at "D"
        exact h
    rw [show ([] : List DV) ++ ((rangeI c).filter fun x => !decide (x ∈ lot) && folQ F lot x).map (fun x => I x) = ((stF c (folQ F) lot).map PyData.int).map .d by rw [List.nil_append, List.map_map]; rfl]
    walk_at "D"
    simp only [ht, dput_tab t lot (.d (LI (stF c (folQ F) lot))) (show t.length < sizeLine by rw [sizeL]; omega)]
    refine hL _ _ ⟨⟨_, rfl⟩, fun b hb => by rw [up_ne hb]; exact fr b hb, _, up_same, Nat.le_trans (len_putL _ _ _) (by omega), fun u hu => ?_⟩
    rw [lookT_put]
    by_cases e : u = lot
    · rw [if_pos e, e]
    · rw [if_neg e]
      rw [List.take_succ, hi] at hu
      rcases List.mem_append.mp hu with z | z
      · exact hall u z
      · exact absurd (by simpa using z) e
  · rintro ε s ⟨⟨y3, rfl⟩, fr, t, ht, htl, hall⟩
    rw [List.take_length] at hall
    refine hN _ _ ?_
    walk_at "D"
    refine ⟨c, folQ F, p, t, rfl, by omega, folQ_set F, ht, fun u h1 h2 => hall u (mem_lots.mpr ⟨h1, h2⟩), ?_⟩
    refine fg_le (fun b m e => ?_) K
    have h1 : b ≠ p := fun z => by rw [z, hp] at e; cases e
    have h2 : b ≠ q := fun z => by rw [z] at e; rw [up_ne hqp] at hq; rw [hq] at e; cases e
    rw [fr b h1, fr1 b h2, up_ne h1]
    exact e
def movL (n : Nat) (a : List Int) (m j : Nat) : List Int := (List.range n).map fun k => gd a k - (if k = m then 1 else 0) + (if k = j then 1 else 0)
theorem len_mov {n m j : Nat} {a : List Int} : (movL n a m j).length = n := by unfold movL; rw [List.length_map, List.length_range]
theorem gd_mov {n m j k : Nat} {a : List Int} (hk : k < n) : gd (movL n a m j) k = gd a k - (if k = m then 1 else 0) + (if k = j then 1 else 0) := by
  unfold movL gd
  rw [List.getD_eq_getElem?_getD, List.getElem?_map, List.getElem?_range hk]
  rfl
theorem sum_three (l : List Nat) (f g h : Nat → Int) : (l.map fun k => f k - g k + h k).sum = (l.map f).sum - (l.map g).sum + (l.map h).sum := by
  induction l with
  | nil => rfl
  | cons x l ih =>
    simp only [List.map_cons, List.sum_cons, ih]
    omega
theorem map_gd {n : Nat} {a : List Int} (ha : a.length = n) : (List.range n).map (fun k => gd a k) = a := by
  refine List.ext_getElem (by rw [List.length_map, List.length_range, ha]) fun j h1 h2 => ?_
  rw [List.getElem_map, List.getElem_range, gd_eq h2]
theorem sum_mov {n m j : Nat} {a : List Int} (ha : a.length = n) (hm : m < n) (hj : j < n) : (movL n a m j).sum = a.sum := by
  unfold movL
  rw [sum_three]
  rw [show (List.range n).map (fun k => gd a k) = a from map_gd ha]
  have e1 : ((List.range n).map fun k => if k = m then (1 : Int) else 0).sum = 1 := sum_e hm
  have e2 : ((List.range n).map fun k => if k = j then (1 : Int) else 0).sum = 1 := sum_e hj
  rw [e1, e2]
  omega
structure Hul (n : Nat) (a : List Int) : Prop where
  nn : NN n a
  sum : a.sum ≤ 4
theorem Hul.mon {n : Nat} {a : List Int} (h : Hul n a) : Mon n 4 a := ⟨h.nn.1, fun x hx => by
  obtain ⟨j, hj, rfl⟩ := List.mem_iff_getElem.mp hx
  rw [gd_eq hj]
  have hjn : j < n := by rw [← h.nn.1]; exact hj
  have := (sum_split h.nn hjn).1
  have := h.sum
  have := h.nn.at hjn
  omega⟩
theorem hul_mov {n m j : Nat} {a : List Int} (h : Hul n a) (hm : m < n) (hj : j < n) (h0 : 0 < gd a m) : Hul n (movL n a m j) := by
  refine ⟨nn_of_gd len_mov fun k hk => ?_, by rw [sum_mov h.nn.1 hm hj]; exact h.sum⟩
  rw [gd_mov hk]
  have := h.nn.at hk
  by_cases c : k = m
  · subst c
    rw [if_pos rfl]
    split <;> omega
  · rw [if_neg c]
    split <;> omega
theorem mov_inj {n m i j : Nat} {a : List Int} (hi : i < n) (hj : j < n) (e : movL n a m i = movL n a m j) : i = j := by
  have h : gd (movL n a m i) i = gd (movL n a m j) i := by rw [e]
  rw [gd_mov hi, gd_mov hi, if_pos rfl] at h
  refine Classical.byContradiction fun c => ?_
  rw [if_neg c] at h
  omega
def sp_law_moved : SpD := fun xs st Q => ∃ (n : Nat) (a : List Int) (m j : Nat), xs = [.d (TI a), I m, I j] ∧ a.length = n ∧ n ≤ 100 ∧ Q (.d (TI (movL n a m j))) st
theorem len_law_moved : ∀ xs st Q, sp_law_moved xs st Q → xs.length = 3 := by rintro xs st Q ⟨n, a, m, j, rfl, _⟩; rfl
theorem sem_law_moved : ∀ xs st Q, sp_law_moved xs st Q → rd_law_moved { nx := fun _ st' => Fg Q (.d .none) st', rt := Fg Q } (startD 4 xs) st := by
  rintro xs st Q ⟨n, a, m, j, rfl, ha, hn, K⟩
  have e0 : startD 4 [.d (TI a), I m, I j] = [some (.d (TI a)), some (I m), some (I j), none] := rfl
  rw [e0]
  unfold rd_law_moved
  walk_at "D"
  rw [ha]
  refine ⟨by omega, by omega, by rw [List.length_range, sizeL]; omega, ?_⟩
  refine comp_mapT _ (fun (k : Nat) => I (gd a k - (if k = m then 1 else 0) + (if k = j then 1 else 0))) trivial _ _ ?_ ?_
  · intro k hk Q1 h
    have hkn := List.mem_range.mp hk
    have ak : atI ((a.map PyData.int).map DV.d) (k : Int) = some (I (gd a k)) := atI_nat (j := k) (by rw [List.getElem?_map, List.getElem?_map, List.getElem?_eq_getElem (by omega), gd_eq (by omega)]; rfl)
    walk_at "D"
    simp only [ak]
    by_cases c1 : k = m
    · by_cases c2 : k = j
      · simp only [show ((k : Int) = (m : Int)) = True from by simp [c1], show ((k : Int) = (j : Int)) = True from by simp [c2], decide_true, if_true]
        walk_at "D"
        rw [if_pos c1, if_pos c2] at h
        exact h
      · simp only [show ((k : Int) = (m : Int)) = True from by simp [c1], show ((k : Int) = (j : Int)) = False from by simp only [eq_iff_iff, iff_false]; omega, decide_true, decide_false, if_true, Bool.false_eq_true, if_false]
        walk_at "D"
        rw [if_pos c1, if_neg c2] at h
        exact h
    · by_cases c2 : k = j
      · simp only [show ((k : Int) = (m : Int)) = False from by simp only [eq_iff_iff, iff_false]; omega, show ((k : Int) = (j : Int)) = True from by simp [c2], decide_true, decide_false, if_true, Bool.false_eq_true, if_false]
        walk_at "D"
        rw [if_neg c1, if_pos c2] at h
        exact h
      · simp only [show ((k : Int) = (m : Int)) = False from by simp only [eq_iff_iff, iff_false]; omega, show ((k : Int) = (j : Int)) = False from by simp only [eq_iff_iff, iff_false]; omega, decide_false, Bool.false_eq_true, if_false]
        walk_at "D"
        rw [if_neg c1, if_neg c2] at h
        exact h
  · rw [show ([] : List DV) ++ (List.range n).map (fun (k : Nat) => I (gd a k - (if k = m then 1 else 0) + (if k = j then 1 else 0))) = ((movL n a m j).map PyData.int).map .d by unfold movL; rw [List.nil_append, List.map_map, List.map_map]; rfl]
    walk_at "D"
    exact fg_ret K
theorem in_TR (neg : Bool) (a : List Int) (l : List (List Int)) {q : Addr} {st : Sto} (Q : DV → Sto → Prop) (h : st q = some (.lst ((l.map TI).map .d))) : qIn neg (.d (TI a)) (.r q) st Q = Q (.d (.bool (if neg then !decide (a ∈ l) else decide (a ∈ l)))) st := by
  refine Eq.trans ?_ (in_TL neg a l st Q)
  unfold qIn
  have e : fz st (.r q) = some (LT l) := by
    simp only [fz, h, datas_map]
    rfl
  rw [e]
  rfl
def sp_law_hull : SpD := fun xs st Q => ∃ (n : Nat) (L : List (List Int)), xs = [.d (LT L)] ∧ 1 ≤ n ∧ n ≤ 4 ∧ L.length ≤ 2 ∧ (∀ a ∈ L, Hul n a) ∧ ∀ (S : List (List Int)) st', Le st st' → (∀ a ∈ S, Mon n 4 a) → Q (.d (TT (minL S))) st'
theorem len_law_hull : ∀ xs st Q, sp_law_hull xs st Q → xs.length = 1 := by rintro xs st Q ⟨n, L, rfl, _⟩; rfl
structure HulW (n : Nat) (L fd : List (List Int)) : Prop where
  h : ∀ a ∈ fd, Hul n a
  nd : ∃ N : List (List Int), fd = L ++ N ∧ N.Nodup
theorem HulW.len {n : Nat} {L fd : List (List Int)} (w : HulW n L fd) (hn : n ≤ 4) (hL : L.length ≤ 2) : fd.length ≤ 627 := by
  obtain ⟨N, rfl, nd⟩ := w.nd
  have := nodup_count (w := 4) nd fun a ha => (w.h a (List.mem_append_right _ ha)).mon
  have : (4 + 1) ^ n ≤ 5 ^ 4 := Nat.pow_le_pow_right (by decide) hn
  rw [List.length_append]
  omega
theorem HulW.add {n : Nat} {L fd new : List (List Int)} (w : HulW n L fd) (h1 : ∀ a ∈ new, Hul n a) (h2 : new.Nodup) (h3 : ∀ a ∈ new, a ∉ fd) : HulW n L (fd ++ new) := by
  obtain ⟨N, e, nd⟩ := w.nd
  refine ⟨fun a ha => (List.mem_append.mp ha).elim (w.h a) (h1 a), N ++ new, by rw [e, List.append_assoc], ?_⟩
  rw [List.nodup_append]
  refine ⟨nd, h2, fun a ha b hb z => h3 b hb ?_⟩
  rw [e, ← z]
  exact List.mem_append_right _ ha
theorem sem_law_hull : ∀ xs st Q, sp_law_hull xs st Q → rd_law_hull sp_law_moved sp_law_least { nx := fun _ st' => Fg Q (.d .none) st', rt := Fg Q } (startD 7 xs) st := by
  rintro xs st Q ⟨n, L0, rfl, n1, n4, hL0, hH, K⟩
  have e0 : startD 7 [.d (LT L0)] = [some (.d (LT L0)), none, none, none, none, none, none] := rfl
  rw [e0]
  unfold rd_law_hull
  have ss : ∀ {n : Nat}, n ≤ 3000 → n ≤ sizeLine := fun h => by rw [sizeL]; omega
  refine seq fun N hN => ?_
  walk_at "D"
  refine fun p hp => hN _ _ ?_; clear hN N
  refine seq fun N hN => ?_
  walk_at "D"
  refine ⟨by decide, by decide, ?_⟩
  rw [show (5000 : Int).toNat = 5000 from rfl]
  refine for_byT _ (fun i ε s => (∃ y2 y3 y4, ε = [some (.d (LT L0)), some (.r p), y2, y3, y4, none, none]) ∧ (∀ b, b ≠ p → s b = st b) ∧ ∃ fd, s p = some (.lst ((fd.map TI).map .d)) ∧ HulW n L0 fd) ⟨⟨_, _, _, rfl⟩, fun b hb => up_ne hb, L0, up_same, hH, [], by rw [List.append_nil], List.nodup_nil⟩ (fun _ _ _ _ => trivial) ?_ ?_
  · rintro i k ε s hi ⟨⟨y2, y3, y4, rfl⟩, fr, fd, hs, w⟩ L hL
    obtain ⟨rfl, hik⟩ := range_some hi
    walk_at "D"
    simp only [hs]
    walk_at "D"
    by_cases c : (k : Int) < (fd.length : Int)
    · simp only [c, decide_true, if_true]
      have hkl : k < fd.length := by omega
      have ha := w.h fd[k] (List.getElem_mem _)
      have ak : atI ((fd.map TI).map DV.d) (k : Int) = some (.d (TI fd[k])) := atI_nat (j := k) (by rw [List.getElem?_map, List.getElem?_map, List.getElem?_eq_getElem hkl]; rfl)
      generalize fd[k] = a at ha ak
      refine seq fun N2 hN2 => ?_
      walk_at "D"
      simp only [hs, ak]
      refine hN2 _ _ ?_; clear hN2 N2
      walk_at "D"
      rw [ha.nn.1]
      refine ⟨by omega, by omega, ?_⟩
      walk_at "D"
      refine for_byT _ (fun i ε s => (∃ y4, ε = [some (.d (LT L0)), some (.r p), some (I (k : Int)), some (.d (TI a)), y4, none, none]) ∧ (∀ b, b ≠ p → s b = st b) ∧ ∃ fd, s p = some (.lst ((fd.map TI).map .d)) ∧ HulW n L0 fd) ⟨⟨_, rfl⟩, fr, fd, hs, w⟩ (fun _ _ _ _ => trivial) ?_ ?_
      · rintro i m ε s' hm ⟨⟨y4, rfl⟩, fr', fd', hs', w'⟩ L2 hL2
        obtain ⟨rfl, hmn⟩ := range_some hm
        have am : atI ((a.map PyData.int).map DV.d) (m : Int) = some (I (gd a m)) := atI_nat (j := m) (by rw [List.getElem?_map, List.getElem?_map, List.getElem?_eq_getElem (by rw [ha.nn.1]; exact hmn), gd_eq (by rw [ha.nn.1]; exact hmn)]; rfl)
        walk_at "D"
        simp only [am]
        walk_at "D"
        by_cases c2 : 0 < gd a m
        · simp only [c2, decide_true, if_true]
          walk_at "D"
          refine ⟨⟨_, hs'⟩, by omega, by omega, by rw [List.length_range]; exact ss (by omega), ?_⟩
          refine comp_mapT _ (fun (j : Nat) => .d (TI (movL n a m j))) trivial _ _ ?_ ?_
          · intro j hj Q1 h
            walk_at "D"
            exact ⟨n, a, m, j, rfl, ha.nn.1, by omega, h⟩
          rw [show ([] : List DV) ++ (List.range m).map (fun (j : Nat) => DV.d (TI (movL n a m j))) = (((List.range m).map fun (j : Nat) => movL n a m j).map TI).map .d by rw [List.nil_append, List.map_map, List.map_map]; rfl]
          walk_at "D"
          refine ⟨by rw [List.length_range]; exact ss (by omega), ?_⟩
          rw [TIs_dv]
          refine comp_fmT _ (fun t => !decide (t ∈ fd')) (fun t => .d (TI t)) trivial _ _ ?_ ?_
          · intro t ht Q1 Q2 h
            walk_at "D"
            rw [in_TR true t fd' _ hs']
            walk_at "D"
            exact h
          rw [show ([] : List DV) ++ (((List.range m).map fun (j : Nat) => movL n a m j).filter fun t => !decide (t ∈ fd')).map (fun t => DV.d (TI t)) = ((((List.range m).map fun (j : Nat) => movL n a m j).filter fun t => !decide (t ∈ fd')).map TI).map .d by rw [List.nil_append, List.map_map]; rfl]
          have hnew : ∀ t ∈ ((List.range m).map fun (j : Nat) => movL n a m j).filter (fun t => !decide (t ∈ fd')), Hul n t := fun t ht => by
            obtain ⟨j, hj, rfl⟩ := List.mem_map.mp (List.mem_filter.mp ht).1
            have := List.mem_range.mp hj
            exact hul_mov ha hmn (by omega) c2
          have hnd : (((List.range m).map fun (j : Nat) => movL n a m j).filter fun t => !decide (t ∈ fd')).Nodup := by
            refine List.Nodup.sublist List.filter_sublist (nodup_map_of List.nodup_range fun i hi j hj e => ?_)
            have := List.mem_range.mp hi
            have := List.mem_range.mp hj
            exact mov_inj (by omega) (by omega) e
          have hout : ∀ t ∈ ((List.range m).map fun (j : Nat) => movL n a m j).filter (fun t => !decide (t ∈ fd')), t ∉ fd' := fun t ht => by
            have := (List.mem_filter.mp ht).2
            simpa using this
          have w2 := w'.add hnew hnd hout
          have l2 := w2.len n4 hL0
          rw [List.length_append] at l2
          generalize ((List.range m).map fun (j : Nat) => movL n a m j).filter (fun t => !decide (t ∈ fd')) = new at w2 l2
          walk_at "D"
          refine ⟨_, _, hs', rfl, by simp only [List.length_map]; exact ss (by omega), hL2 _ _ ⟨⟨_, rfl⟩, fun b hb => by rw [up_ne hb]; exact fr' b hb, fd' ++ new, ?_, w2⟩⟩
          rw [up_same, List.map_append, List.map_append]
        · simp only [c2, decide_false, Bool.false_eq_true, if_false]
          exact hL2 _ _ ⟨⟨_, rfl⟩, fr', fd', hs', w'⟩
      · rintro ε s' ⟨⟨y4, rfl⟩, fr', fd', hs', w'⟩
        exact hL _ _ ⟨⟨_, _, _, rfl⟩, fr', fd', hs', w'⟩
    · simp only [c, decide_false, Bool.false_eq_true, if_false]
      exact hL _ _ ⟨⟨_, _, _, rfl⟩, fr, fd, hs, w⟩
  · rintro ε s ⟨⟨y2, y3, y4, rfl⟩, fr, fd, hs, w⟩
    refine hN _ _ ?_
    have l2 := w.len n4 hL0
    walk_at "D"
    refine ⟨.r p, fd, n, 4, rfl, ?_, ⟨n1, by omega, by omega, fun a ha => (w.h a ha).mon⟩, fg_ret (K fd s (fun b m e => ?_) fun a ha => (w.h a ha).mon)⟩
    · show litems s (.r p) = _
      simp only [litems, hs]
    · have : b ≠ p := fun z => by rw [z, hp] at e; cases e
      rw [fr b this]
      exact e
def sp_law_some_ideal : SpD := fun xs st Q => ∃ (m : Addr) (B : Nat), xs = [.r m] ∧ B + 30000 < 2 ^ 50 ∧ DrawSt st m B ∧ ∀ (n : Nat) (G : List (List Int)) st', GOk n G → DrawSt st' m (B + 30000) → Q (.d (idl n G)) st'
theorem len_law_some_ideal : ∀ xs st Q, sp_law_some_ideal xs st Q → xs.length = 1 := by rintro xs st Q ⟨m, B, rfl, _⟩; rfl
theorem sum_le_len : ∀ {a : List Int}, (∀ x ∈ a, x ≤ 1) → a.sum ≤ (a.length : Int)
  | [], _ => by decide
  | x :: a, h => by
    have := sum_le_len (a := a) fun y hy => h y (List.mem_cons_of_mem _ hy)
    have := h x List.mem_cons_self
    rw [List.sum_cons, List.length_cons]
    omega
theorem hul_of {n : Nat} {a : List Int} (hn : n ≤ 4) (h : Mon n 1 a) : Hul n a := ⟨⟨h.1, fun x hx => (h.2 x hx).1⟩, by
  have := sum_le_len fun x hx => (h.2 x hx).2
  rw [h.1] at this
  omega⟩
theorem sem_law_some_ideal : ∀ xs st Q, sp_law_some_ideal xs st Q → rd_law_some_ideal sp_law_draw sp_law_ideal sp_law_monomial sp_law_hull { nx := fun _ st' => Fg Q (.d .none) st', rt := Fg Q } (startD 5 xs) st := by
  rintro xs st Q ⟨m, B, rfl, hB, D, K⟩
  have e0 : startD 5 [.r m] = [some (.r m), none, none, none, none] := rfl
  rw [e0]
  unfold rd_law_some_ideal
  have ss : ∀ {n : Nat}, n ≤ 3000 → n ≤ sizeLine := fun h => by rw [sizeL]; omega
  refine seq fun N hN => ?_
  walk_at "D"
  refine draw D (by omega) (by omega) (by omega) fun z s2 l2 u2 D2 _ => ?_
  obtain ⟨n, hn⟩ : ∃ n : Nat, 1 + z = (n : Int) := ⟨(1 + z).toNat, by omega⟩
  walk_at "D"
  rw [hn]
  have n1 : 1 ≤ n := by omega
  have n4 : n ≤ 4 := by omega
  clear hn l2 u2
  refine hN _ _ ?_; clear hN N
  refine seq fun N hN => ?_
  walk_at "D"
  refine draw D2 (by omega) (by omega) (by omega) fun z2 s3 l3 u3 D3 _ => ?_
  walk_at "D"
  by_cases c : z2 = 0
  · simp only [c, decide_true, if_true]
    walk_at "D"
    refine draw D3 (by omega) (by omega) (by omega) fun z4 s4 l4 u4 D4 _ => ?_
    walk_at "D"
    refine ⟨m, n, 5, 1 + z4, _, rfl, n1, by omega, by decide, by omega, by omega, by omega, D4, fun G s5 hG _ D5 _ => ?_⟩
    exact fg_ret (K n G s5 ⟨n1, n4, hG.2.1, fun g hg => (hG.2.2 g hg).mono (by omega)⟩ (D5.mono (by omega)))
  simp only [c, decide_false, Bool.false_eq_true, if_false]
  refine hN _ _ ?_; clear hN N
  refine seq fun N hN => ?_
  walk_at "D"
  refine ⟨by decide, by decide, by rw [List.length_range]; exact ss (by decide), ?_⟩
  refine comp_byT _ (fun i acc s' => DrawSt s' m (B + 2 + 200 * i) ∧ ∃ L : List (List Int), acc = (L.map TI).map .d ∧ L.length = i ∧ ∀ a ∈ L, Mon n 1 a) (fun _ _ _ _ => trivial) _ s3 ⟨D3, [], rfl, rfl, fun a h => (nomatch h)⟩ ?_ ?_
  · rintro i k acc s' hi ⟨D7, L0, rfl, hl0, hA⟩ L hL
    obtain ⟨rfl, hit⟩ := range_some hi
    have hit2 : k < 2 := hit
    simp only [qYes]
    walk_at "D"
    refine ⟨m, n, 1, _, rfl, by omega, by decide, by decide, by omega, D7, fun a s8 ha D8 _ => ?_⟩
    refine hL _ _ ⟨D8.mono (by omega), L0 ++ [a], ?_, by rw [List.length_append, hl0]; rfl, fun z hz => ?_⟩
    · rw [List.map_append, List.map_append]
      rfl
    · rcases List.mem_append.mp hz with q | q
      · exact hA z q
      · rw [List.mem_singleton.mp q]
        exact ha
  · rintro acc s' ⟨D7, L0, rfl, hl0, hA⟩
    rw [List.length_range] at D7 hl0
    have hl2 : L0.length = 2 := hl0
    walk_at "D"
    refine ⟨ss (by omega), ?_⟩
    rw [TIs_dv]
    refine comp_fmT _ (fun (a : List Int) => decide (0 < a.sum)) (fun a => .d (TI a)) trivial _ _ ?_ ?_
    · intro a ha Q1 Q2 h
      walk_at "D"
      exact h
    rw [show ([] : List DV) ++ (L0.filter fun (a : List Int) => decide (0 < a.sum)).map (fun a => DV.d (TI a)) = ((L0.filter fun (a : List Int) => decide (0 < a.sum)).map TI).map .d by rw [List.nil_append, List.map_map]; rfl]
    walk_at "D"
    refine ⟨n, L0.filter fun (a : List Int) => decide (0 < a.sum), rfl, n1, n4, Nat.le_trans (List.length_filter_le _ _) (by omega), fun a ha => hul_of n4 (hA a (List.mem_filter.mp ha).1), fun S st' le hS => ?_⟩
    refine hN _ _ ?_
    walk_at "D"
    try rw [show (5 : Int) = ((5 : Nat) : Int) from rfl]
    rw [cutD_take, ← List.map_take, ← List.map_take, mkT_map]
    walk_at "D"
    exact ⟨by decide, fg_ret (K n ((minL S).take 5) st' ⟨n1, n4, List.length_take_le _ _, fun g hg => hS g (min_sub g (List.mem_of_mem_take hg))⟩ (Le.draw le (D7.mono (by omega))))⟩
def sp_law : SpD := fun xs st Q => ∃ ns : List Int, xs = [.d (.list (ns.map .int))] ∧ ns.length ≤ 63 ∧ ∀ st', Q (Bo true) st'
theorem len_law : ∀ xs st Q, sp_law xs st Q → xs.length = 1 := by rintro xs st Q ⟨ns, rfl, _⟩; rfl
theorem law_true : ∀ ns : List Int, ns.length ≤ 63 → sp_law [.d (.list (ns.map .int))] (fun _ => none) (fun x _ => x = .d (.bool true)) := fun ns h => ⟨ns, rfl, h, fun _ => rfl⟩
theorem sem_law : ∀ xs st Q, sp_law xs st Q → rd_law sp_law_begun sp_law_some_ideal sp_law_shuffled sp_quotient_breach sp_law_quotient_place sp_law_listings sp_quotient_listing { nx := fun _ st' => Fg Q (.d .none) st', rt := Fg Q } (startD 12 xs) st := by
  rintro xs st Q ⟨ns, rfl, hns, K⟩
  have e0 : startD 12 [.d (.list (ns.map .int))] = [some (.d (.list (ns.map .int))), none, none, none, none, none, none, none, none, none, none, none] := rfl
  rw [e0]
  unfold rd_law
  have ss : ∀ {n : Nat}, n ≤ 3200 → n ≤ sizeLine := fun h => by rw [sizeL]; omega
  refine seq fun N0 hN0 => ?_
  walk_at "D"
  refine ⟨by decide, by decide, ?_⟩
  rw [show (2 : Int).toNat = 2 from rfl]
  refine for_byT _ (fun _ ε s => ∃ x1 x2 x3 x4 x5 x6 x7 x8 x9 x10, ε = [some (.d (.list (ns.map .int))), x1, x2, x3, x4, x5, x6, x7, x8, x9, x10, none]) ⟨_, _, _, _, _, _, _, _, _, _, rfl⟩ (fun _ _ _ _ => trivial) ?_ ?_
  rotate_left
  · rintro ε s ⟨x1, x2, x3, x4, x5, x6, x7, x8, x9, x10, rfl⟩
    refine hN0 _ _ ?_
    have f0 : GOk 3 [] := ⟨by decide, by decide, by decide, fun f h => (nomatch h)⟩
    have f1 : GOk 2 [[0, 0]] := ⟨by decide, by decide, by decide, fun f h => by rw [List.mem_singleton.mp h]; exact ⟨rfl, by decide⟩⟩
    have h1 : (UC.TI [0]).eqv (PyData.tuple [PyData.int 0]) = true := by
      rw [show PyData.tuple [PyData.int 0] = UC.TI [0] from rfl, eqv_TI]
      simp
    refine seq fun N hN => ?_
    walk_at "D"
    refine ⟨by decide, by decide, 3, [], rfl, f0, ?_⟩
    rw [show optD (grd ([] : List (List Int)).length (folQ []) ([] : List (List Int)).length []) = .d (TI []) from rfl]
    walk_at "D"
    refine ⟨by decide, by decide, by decide, by decide, 3, [], [], rfl, f0, by decide, fun x h => (nomatch h), ?_⟩
    simp only [show isN (DV.d (optN (plF (folQ []) [] []))) = true from rfl, Bool.not_true, Bool.false_eq_true, if_false]
    refine hN _ _ ?_; clear hN N
    walk_at "D"
    refine ⟨by decide, by decide, by decide, 2, [[0, 0]], rfl, f1, ?_⟩
    rw [show optD (grd ([[0, 0]] : List (List Int)).length (folQ [[0, 0]]) ([[0, 0]] : List (List Int)).length []) = .d (TI [0]) from rfl]
    refine ⟨by decide, (shaped_TI : SeqAt.shaped (UC.TI [0]) = true), (shaped_TI : SeqAt.shaped (UC.TI [0]) = true), ?_⟩
    rw [h1]
    exact fg_ret (K _)
  clear hN0
  rintro i k ε s hk ⟨x1, x2, x3, x4, x5, x6, x7, x8, x9, x10, rfl⟩ L hL
  obtain ⟨rfl, hi⟩ := range_some hk
  have hk2 : k < 2 := hi
  walk_at "D"
  refine seq fun N hN => ?_
  walk_at "D"
  refine begun hns (by omega) (by omega) fun m s1 D1 _ => ?_
  refine hN _ _ ?_; clear hN N
  refine seq fun N hN => ?_
  walk_at "D"
  refine ⟨m, _, rfl, by omega, D1, fun n F s2 hF D2 => ?_⟩
  walk_at "D"
  refine hN _ _ ?_; clear hN N
  obtain ⟨c, hc⟩ : ∃ c, c = F.length := ⟨_, rfl⟩
  have c5 : c ≤ 5 := by rw [hc]; exact hF.len
  have okp : ∀ l : List Int, l.length ≤ 5 → reprOk (optN (plF (folQ F) [] l)) := fun l hl => ok_optN fun n hn => by
    have := plF_le hn
    rw [List.length_nil] at this
    omega
  have nsp : ∀ (o : Option Nat) (x : Str), optN o ≠ .str x := fun o x h => by cases o <;> exact nomatch h
  have nsI : ∀ (o : Option (List Int)) (x : Str), optI o ≠ .str x := fun o x h => by cases o <;> exact nomatch h
  refine seq fun N hN => ?_
  walk_at "D"
  rw [← hc]
  refine ⟨by decide, hN _ _ ?_⟩; clear hN N
  refine seq fun N hN => ?_
  walk_at "D"
  refine ⟨by decide, by decide, ?_⟩
  rw [show (6 : Int).toNat = 6 from rfl]
  refine for_byT _ (fun i ε s => (∃ x7 x8, ε = [some (.d (.list (ns.map .int))), some (I (k : Int)), some (.r m), some (I (n : Int)), some (.d (TT F)), some (.d (idl n F)), some (I (c : Int)), x7, x8, x9, x10, none]) ∧ DrawSt s m (0 + 30000 + 100 * i)) ⟨⟨_, _, rfl⟩, D2⟩ (fun _ _ _ _ => trivial) ?_ ?_
  · rintro i j ε s3 hj ⟨⟨x7, x8, rfl⟩, D3⟩ L2 hL2
    obtain ⟨rfl, hj6⟩ := range_some hj
    have hj6 : j < 6 := hj6
    walk_at "D"
    refine seq fun N2 hN2 => ?_
    walk_at "D"
    refine ⟨m, c, _, rfl, by omega, by omega, D3, fun l s4 hl hw D4 _ => ?_⟩
    refine hN2 _ _ ?_; clear hN2 N2
    walk_at "D"
    refine ⟨n, F, l, rfl, hF, by omega, by rw [← hc]; exact hw, ?_⟩
    refine go_repr (okp l (by omega)) (nsp _) ?_
    refine ⟨n, F, l, rfl, hF, by omega, by rw [← hc]; exact hw, ?_⟩
    refine go_repr (okp l (by omega)) (nsp _) ?_
    refine go_neS ?_
    walk_at "D"
    exact hL2 _ _ ⟨⟨_, _, rfl⟩, D4.mono (by omega)⟩
  rintro ε s3 ⟨⟨x7, x8, rfl⟩, D3⟩
  refine hN _ _ ?_; clear hN N
  have hlv := len_lvl c c
  have hlc := Nat.le_trans (lvl_count c c) (pow5 c5 c5)
  have hfg := first_good c (folQ F)
  refine seq fun N hN => ?_
  walk_at "D"
  refine ⟨c, rfl, c5, fun x s4 le4 _ hx => ?_⟩
  obtain ⟨inv, hsrc, hinv⟩ := src_of2 hx
  simp only [seqSrc, titems, lsrc] at hsrc
  simp only [hsrc]
  refine ⟨by rw [List.length_map, List.length_map]; exact ss (by omega), ?_⟩
  rw [List.map_map]
  refine comp_fmT _ (fun l => (plF (folQ F) [] l).isNone) (fun l => .d (TI l)) (hinv _ hx) _ _ ?_ ?_
  · intro l hl Q1 Q2 h
    obtain ⟨l1, l2⟩ := hlv l hl
    walk_at "D"
    refine ⟨n, F, l, rfl, hF, by omega, by rw [← hc]; exact l2, ?_⟩
    cases e : plF (folQ F) [] l with
    | none =>
      rw [e] at h
      walk_at "D"
      exact h
    | some n =>
      rw [e] at h
      walk_at "D"
      exact h
  rw [show ([] : List DV) ++ ((lvl c c).filter fun l => (plF (folQ F) [] l).isNone).map (fun l => DV.d (UC.TI l)) = ((goodL c (folQ F)).map UC.TI).map .d by rw [List.nil_append, List.map_map]; rfl]
  have hgl : (goodL c (folQ F)).head? = grd c (folQ F) c [] := hfg
  generalize goodL c (folQ F) = G at hgl
  walk_at "D"
  refine hN _ _ ?_; clear hN N
  have go : ∀ (st : Sto) (Q' : DV → Sto → Prop), Q' (optD (grd c (folQ F) c [])) st → sp_quotient_listing [.d (idl n F)] st Q' := fun st Q' h => ⟨n, F, rfl, hF, by rw [← hc]; exact h⟩
  have hlow : ∀ r, grd c (folQ F) c [] = some r → r.length = c ∧ (∀ x ∈ r, 0 ≤ x ∧ x < (c : Int)) ∧ plF (folQ F) [] r = none := fun r hr => ⟨(grd_low hr).1, (grd_low hr).2, plF_grd c [] r hr⟩
  have okg : reprOk (optI (grd c (folQ F) c [])) := ok_optI fun r hr => by
    obtain ⟨h1, h2, _⟩ := hlow r hr
    exact ⟨by omega, fun x hx => by have := h2 x hx; omega⟩
  generalize grd c (folQ F) c [] = g at hgl go hlow okg
  refine seq fun N hN => ?_
  walk_at "D"
  refine go _ _ ?_
  refine hN _ _ ?_; clear hN N
  rw [opt_dv]
  refine seq fun N hN => ?_
  walk_at "D"
  refine go_repr okg (nsI _) ?_
  refine ⟨by decide, ?_⟩
  cases G with
  | nil =>
    cases g with
    | some r => cases hgl
    | none =>
      simp only [decide_true, Bool.not_true, Bool.false_eq_true, if_false]
      refine go_repr ok_none (fun x h => nomatch h) ?_
      refine go_neS ?_
      walk_at "D"
      refine hN _ _ ?_; clear hN N
      walk_at "D"
      rw [show isN (DV.d (optI none)) = true from rfl]
      simp only [Bool.not_true, Bool.false_eq_true, if_false]
      exact hL _ _ ⟨_, _, _, _, _, _, _, _, _, _, rfl⟩
  | cons l r =>
    cases g with
    | none => cases hgl
    | some l' =>
      cases hgl
      obtain ⟨h1, h2, h3⟩ := hlow l rfl
      have a0 : atI (((l :: r).map UC.TI).map DV.d) 0 = some (.d (UC.TI l)) := atI_nat (j := 0) rfl
      have hne : (l :: r = []) = False := by simp
      simp only [a0, hne, decide_false, Bool.not_false, if_true]
      refine go_repr okg (fun x h => nomatch h) ?_
      refine go_neS ?_
      walk_at "D"
      refine hN _ _ ?_; clear hN N
      walk_at "D"
      rw [show isN (DV.d (optI (some l))) = false from rfl]
      simp only [Bool.not_false, if_true]
      refine ⟨n, F, l, rfl, hF, by omega, by rw [← hc]; exact h2, ?_⟩
      rw [h3]
      simp only [show isN (DV.d (optN none)) = true from rfl, Bool.not_true, Bool.false_eq_true, if_false]
      exact hL _ _ ⟨_, _, _, _, _, _, _, _, _, _, rfl⟩
end U
end
section
set_option Elab.async false
set_option linter.all false
set_option pp.maxSteps 200
set_option maxRecDepth 100000
namespace GD
open PySem L2 DL RD
section
variable {P : Program} {w : World} {K : PySem.W.Frag} {mg : Str → Option Value} {base : Heap}
def top (i : Nat) : Stmt := PySem.Challenge.pw_jointneeds_k80_quotient_listings.main.body.getD i (.Pass ⟨0, 0, 0, 0⟩)
structure Tx (mg : Str → Option Value) : Prop where
  b_all : mg "all" = none
  b_any : mg "any" = none
  b_enumerate : mg "enumerate" = none
  b_int : mg "int" = none
  b_len : mg "len" = none
  b_list : mg "list" = none
  b_max : mg "max" = none
  b_range : mg "range" = none
  b_repr : mg "repr" = none
  b_set : mg "set" = none
  b_sorted : mg "sorted" = none
  b_sum : mg "sum" = none
  b_tuple : mg "tuple" = none
  b_zip : mg "zip" = none
  c_MOST_LISTED : ∃ t, mg "MOST_LISTED" = some (.int 7 t)
  m_combinations : mg "combinations" = some (.type "itertools.combinations")
abbrev s_law_begun : Stmt := top 19
abbrev N_law_begun : List Str := ["script", "k", "cells", "great", "seed", "cell"]
theorem S_law_begun : FnScope N_law_begun ["script", "k"] (defScope s_law_begun) := ⟨rfl, rfl, rfl, by decide +kernel, rfl, by decide +kernel, by decide +kernel⟩
theorem v_law_begun_0 : visB N_law_begun (defScope s_law_begun) 0 "script" = true := by decide +kernel
theorem v_law_begun_1 : visB N_law_begun (defScope s_law_begun) 1 "k" = true := by decide +kernel
theorem v_law_begun_2 : visB N_law_begun (defScope s_law_begun) 2 "cells" = true := by decide +kernel
theorem l_law_begun_2 : locB N_law_begun (defScope s_law_begun) (defScope s_law_begun) 2 "cells" = true := by decide +kernel
theorem v_law_begun_3 : visB N_law_begun (defScope s_law_begun) 3 "great" = true := by decide +kernel
theorem v_law_begun_4 : visB N_law_begun (defScope s_law_begun) 4 "seed" = true := by decide +kernel
theorem l_law_begun_4 : locB N_law_begun (defScope s_law_begun) (defScope s_law_begun) 4 "seed" = true := by decide +kernel
theorem v_law_begun_5 : visB N_law_begun (defScope s_law_begun) 5 "cell" = true := by decide +kernel
theorem l_law_begun_5 : locB N_law_begun (defScope s_law_begun) (defScope s_law_begun) 5 "cell" = true := by decide +kernel
theorem g_law_begun_int : glB (defScope s_law_begun) "int" = true := by decide +kernel
set_option maxHeartbeats 4000000 in
theorem d_law_begun  (T : Tx mg)  : ∀ X, Cok P w K mg base X N_law_begun (defScope s_law_begun) (defScope s_law_begun) 0 → DSs X (defBody s_law_begun) (rd_law_begun) := fun X c =>
  (ds_cons (ds_asg c (de_bin (op_qAdd false) (de_sl false (de_var c v_law_begun_0) (do_some (de_var c v_law_begun_1)) do_none) (de_sl false (de_var c v_law_begun_0) do_none (do_some (de_var c v_law_begun_1)))) (dg_name c l_law_begun_2) rfl rfl)
  (ds_cons (ds_setLc (i := 3) false [("cell", 5)] c (by decide +kernel) (by kernel_rfl) (by decide +kernel) (by decide) (di_seq (de_var c v_law_begun_2)) (fun _ c1 => (dg_name c1 (by decide +kernel))) (fun _ c1 => (dts_one (dt_cp op_qGe rfl (de_var c1 (by decide +kernel)) (de_bin op_qPow de_int de_int)))) (fun _ c1 => (de_var c1 (by decide +kernel))))
  (ds_cons (ds_asg c (de_bin (op_qAdd false) de_int (de_var c v_law_begun_1)) (dg_name c l_law_begun_4) rfl rfl)
  (ds_cons (ds_for c (di_seq (de_var c v_law_begun_2)) (dg_name c l_law_begun_5) (ds_one (ds_asg c (de_bin op_qMod (de_ct c g_law_begun_int T.b_int bt_int c_int (da_cons (de_bin (op_qAdd false) (de_bin (op_qMul false) (de_var c v_law_begun_4) de_int) (de_var c v_law_begun_5)) da_nil)) de_int) (dg_name c l_law_begun_4) rfl rfl)))
  (ds_one (ds_ret (de_disp (dps_cons (de_if (dt_cp (op_qNe c.hu64) rfl (de_var c v_law_begun_3) (de_lst false da_nil)) (de_ix (de_var c v_law_begun_3) de_int (fun _ _ => rfl)) de_int) (dps_cons (de_var c v_law_begun_4) (dps_cons (de_bin (op_qAdd false) (de_var c v_law_begun_2) (de_lst false (da_cons (de_bin (op_qAdd false) (de_bin (op_qMul false) de_int (de_var c v_law_begun_1)) de_int) da_nil))) (dps_cons de_int dps_nil)))) rfl rfl (fun z => by cases z) (by decide))))))))
theorem o_law_begun  (T : Tx mg)  {f : Addr} {fd : FuncData} {sp : SpD} (Fu : Fun K "_law_begun" "_law_begun" s_law_begun f fd) (hm : mg "_law_begun" = some (.ref f)) (len : ∀ xs st Q, sp xs st Q → xs.length = 2) (sem : ∀ xs st Q, sp xs st Q → rd_law_begun { nx := fun _ st' => Fg Q (.d .none) st', rt := Fg Q } (startD 6 xs) st) : Cl P w K mg base "_law_begun" 1 sp :=
  ⟨f, fd, ["script", "k"], hm, Fu.kp, fn_ok Fu S_law_begun len (d_law_begun T ) sem, Fu.binds fun _ _ _ _ _ _ us hl => match us, hl with | [_, _], _ => rfl⟩
abbrev s_law_divides : Stmt := top 22
abbrev N_law_divides : List Str := ["a", "b", "k"]
theorem S_law_divides : FnScope N_law_divides ["a", "b"] (defScope s_law_divides) := ⟨rfl, rfl, rfl, by decide +kernel, rfl, by decide +kernel, by decide +kernel⟩
theorem v_law_divides_0 : visB N_law_divides (defScope s_law_divides) 0 "a" = true := by decide +kernel
theorem g_law_divides_len : glB (defScope s_law_divides) "len" = true := by decide +kernel
theorem g_law_divides_range : glB (defScope s_law_divides) "range" = true := by decide +kernel
set_option maxHeartbeats 4000000 in
theorem d_law_divides  (T : Tx mg)  : ∀ X, Cok P w K mg base X N_law_divides (defScope s_law_divides) (defScope s_law_divides) 0 → DSs X (defBody s_law_divides) (rd_law_divides) := fun X c =>
  (ds_one (ds_ret (de_cp (op_qEq c.hu64) rfl (de_lc false [("k", 2)] c (by decide +kernel) (by decide) (di_rng1 c g_law_divides_range T.b_range (da_cons (de_cb c g_law_divides_len T.b_len bb_len c_len (da_cons (de_var c v_law_divides_0) da_nil)) da_nil)) (fun _ c1 => (dg_name c1 (by decide +kernel))) (fun _ c1 => (dts_one (dt_cp op_qGt rfl (de_ix (de_var c1 (by decide +kernel)) (de_var c1 (by decide +kernel)) (fun _ _ => rfl)) (de_ix (de_var c1 (by decide +kernel)) (de_var c1 (by decide +kernel)) (fun _ _ => rfl))))) (fun _ c1 => (de_var c1 (by decide +kernel)))) (de_lst false da_nil))))
theorem o_law_divides  (T : Tx mg)  {f : Addr} {fd : FuncData} {sp : SpD} (Fu : Fun K "_law_divides" "_law_divides" s_law_divides f fd) (hm : mg "_law_divides" = some (.ref f)) (len : ∀ xs st Q, sp xs st Q → xs.length = 2) (sem : ∀ xs st Q, sp xs st Q → rd_law_divides { nx := fun _ st' => Fg Q (.d .none) st', rt := Fg Q } (startD 3 xs) st) : Cl P w K mg base "_law_divides" 1 sp :=
  ⟨f, fd, ["a", "b"], hm, Fu.kp, fn_ok Fu S_law_divides len (d_law_divides T ) sem, Fu.binds fun _ _ _ _ _ _ us hl => match us, hl with | [_, _], _ => rfl⟩
abbrev s_law_least : Stmt := top 24
abbrev N_law_least : List Str := ["monomials", "some", "a", "b"]
theorem S_law_least : FnScope N_law_least ["monomials"] (defScope s_law_least) := ⟨rfl, rfl, rfl, by decide +kernel, rfl, by decide +kernel, by decide +kernel⟩
theorem v_law_least_0 : visB N_law_least (defScope s_law_least) 0 "monomials" = true := by decide +kernel
theorem v_law_least_1 : visB N_law_least (defScope s_law_least) 1 "some" = true := by decide +kernel
theorem l_law_least_1 : locB N_law_least (defScope s_law_least) (defScope s_law_least) 1 "some" = true := by decide +kernel
theorem g_law_least_sorted : glB (defScope s_law_least) "sorted" = true := by decide +kernel
theorem g_law_least_set : glB (defScope s_law_least) "set" = true := by decide +kernel
theorem g_law_least_tuple : glB (defScope s_law_least) "tuple" = true := by decide +kernel
set_option maxHeartbeats 4000000 in
theorem d_law_least {sp_law_divides : SpD} (T : Tx mg) (C_law_divides : Cl P w K mg base "_law_divides" 1 sp_law_divides) : ∀ X, Cok P w K mg base X N_law_least (defScope s_law_least) (defScope s_law_least) 1 → DSs X (defBody s_law_least) (rd_law_least sp_law_divides) := fun X c =>
  (ds_cons (ds_asg c (BS.de_sortB false c g_law_least_sorted T.b_sorted g_law_least_set T.b_set (de_var c v_law_least_0)) (dg_name c l_law_least_1) rfl rfl)
  (ds_one (ds_ret (de_ct c g_law_least_tuple T.b_tuple bt_tuple c_tuple (da_cons (de_lc false [("a", 2)] c (by decide +kernel) (by decide) (di_seq (de_var c v_law_least_1)) (fun _ c1 => (dg_name c1 (by decide +kernel))) (fun _ c1 => (dts_one (dt_cp (op_qEq c1.hu64) rfl (de_lc false [("b", 3)] c1 (by decide +kernel) (by decide) (di_seq (de_var c1 (by decide +kernel))) (fun _ c2 => (dg_name c2 (by decide +kernel))) (fun _ c2 => (dts_one (DW.pt (dw_and (dt_cp (op_qNe c2.hu64) rfl (de_var c2 (by decide +kernel)) (de_var c2 (by decide +kernel))) (dw_and1 (dt_val (de_callC c2 (by decide +kernel) C_law_divides (by decide) (da_cons (de_var c2 (by decide +kernel)) (da_cons (de_var c2 (by decide +kernel)) da_nil))))))))) (fun _ c2 => (de_var c2 (by decide +kernel)))) (de_lst false da_nil)))) (fun _ c1 => (de_var c1 (by decide +kernel)))) da_nil)))))
theorem o_law_least {sp_law_divides : SpD} (T : Tx mg) (C_law_divides : Cl P w K mg base "_law_divides" 1 sp_law_divides) {f : Addr} {fd : FuncData} {sp : SpD} (Fu : Fun K "_law_least" "_law_least" s_law_least f fd) (hm : mg "_law_least" = some (.ref f)) (len : ∀ xs st Q, sp xs st Q → xs.length = 1) (sem : ∀ xs st Q, sp xs st Q → rd_law_least sp_law_divides { nx := fun _ st' => Fg Q (.d .none) st', rt := Fg Q } (startD 4 xs) st) : Cl P w K mg base "_law_least" 2 sp :=
  ⟨f, fd, ["monomials"], hm, Fu.kp, fn_ok Fu S_law_least len (d_law_least T C_law_divides) sem, Fu.binds fun _ _ _ _ _ _ us hl => match us, hl with | [_], _ => rfl⟩
abbrev s_law_moved : Stmt := top 30
abbrev N_law_moved : List Str := ["a", "m", "j", "k"]
theorem S_law_moved : FnScope N_law_moved ["a", "m", "j"] (defScope s_law_moved) := ⟨rfl, rfl, rfl, by decide +kernel, rfl, by decide +kernel, by decide +kernel⟩
theorem v_law_moved_0 : visB N_law_moved (defScope s_law_moved) 0 "a" = true := by decide +kernel
theorem g_law_moved_len : glB (defScope s_law_moved) "len" = true := by decide +kernel
theorem g_law_moved_range : glB (defScope s_law_moved) "range" = true := by decide +kernel
theorem g_law_moved_tuple : glB (defScope s_law_moved) "tuple" = true := by decide +kernel
set_option maxHeartbeats 4000000 in
theorem d_law_moved  (T : Tx mg)  : ∀ X, Cok P w K mg base X N_law_moved (defScope s_law_moved) (defScope s_law_moved) 0 → DSs X (defBody s_law_moved) (rd_law_moved) := fun X c =>
  (ds_one (ds_ret (de_ct c g_law_moved_tuple T.b_tuple bt_tuple c_tuple (da_cons (de_lc false [("k", 3)] c (by decide +kernel) (by decide) (di_rng1 c g_law_moved_range T.b_range (da_cons (de_cb c g_law_moved_len T.b_len bb_len c_len (da_cons (de_var c v_law_moved_0) da_nil)) da_nil)) (fun _ c1 => (dg_name c1 (by decide +kernel))) (fun _ c1 => dts_nil) (fun _ c1 => (de_bin (op_qAdd false) (de_bin op_qSub (de_ix (de_var c1 (by decide +kernel)) (de_var c1 (by decide +kernel)) (fun _ _ => rfl)) (de_if (dt_cp (op_qEq c1.hu64) rfl (de_var c1 (by decide +kernel)) (de_var c1 (by decide +kernel))) de_int de_int)) (de_if (dt_cp (op_qEq c1.hu64) rfl (de_var c1 (by decide +kernel)) (de_var c1 (by decide +kernel))) de_int de_int)))) da_nil))))
theorem o_law_moved  (T : Tx mg)  {f : Addr} {fd : FuncData} {sp : SpD} (Fu : Fun K "_law_moved" "_law_moved" s_law_moved f fd) (hm : mg "_law_moved" = some (.ref f)) (len : ∀ xs st Q, sp xs st Q → xs.length = 3) (sem : ∀ xs st Q, sp xs st Q → rd_law_moved { nx := fun _ st' => Fg Q (.d .none) st', rt := Fg Q } (startD 4 xs) st) : Cl P w K mg base "_law_moved" 1 sp :=
  ⟨f, fd, ["a", "m", "j"], hm, Fu.kp, fn_ok Fu S_law_moved len (d_law_moved T ) sem, Fu.binds fun _ _ _ _ _ _ us hl => match us, hl with | [_, _, _], _ => rfl⟩
abbrev s_law_hull : Stmt := top 31
abbrev N_law_hull : List Str := ["monomials", "found", "at", "a", "m", "b", "j"]
theorem S_law_hull : FnScope N_law_hull ["monomials"] (defScope s_law_hull) := ⟨rfl, rfl, rfl, by decide +kernel, rfl, by decide +kernel, by decide +kernel⟩
theorem v_law_hull_0 : visB N_law_hull (defScope s_law_hull) 0 "monomials" = true := by decide +kernel
theorem v_law_hull_1 : visB N_law_hull (defScope s_law_hull) 1 "found" = true := by decide +kernel
theorem l_law_hull_1 : locB N_law_hull (defScope s_law_hull) (defScope s_law_hull) 1 "found" = true := by decide +kernel
theorem v_law_hull_2 : visB N_law_hull (defScope s_law_hull) 2 "at" = true := by decide +kernel
theorem l_law_hull_2 : locB N_law_hull (defScope s_law_hull) (defScope s_law_hull) 2 "at" = true := by decide +kernel
theorem v_law_hull_3 : visB N_law_hull (defScope s_law_hull) 3 "a" = true := by decide +kernel
theorem l_law_hull_3 : locB N_law_hull (defScope s_law_hull) (defScope s_law_hull) 3 "a" = true := by decide +kernel
theorem v_law_hull_4 : visB N_law_hull (defScope s_law_hull) 4 "m" = true := by decide +kernel
theorem l_law_hull_4 : locB N_law_hull (defScope s_law_hull) (defScope s_law_hull) 4 "m" = true := by decide +kernel
theorem g_law_hull_list : glB (defScope s_law_hull) "list" = true := by decide +kernel
theorem g_law_hull_range : glB (defScope s_law_hull) "range" = true := by decide +kernel
theorem g_law_hull_len : glB (defScope s_law_hull) "len" = true := by decide +kernel
theorem g_law_hull_law_least : glB (defScope s_law_hull) "_law_least" = true := by decide +kernel
set_option maxHeartbeats 4000000 in
theorem d_law_hull {sp_law_moved : SpD} {sp_law_least : SpD} (T : Tx mg) (C_law_moved : Cl P w K mg base "_law_moved" 1 sp_law_moved) (C_law_least : Cl P w K mg base "_law_least" 2 sp_law_least) : ∀ X, Cok P w K mg base X N_law_hull (defScope s_law_hull) (defScope s_law_hull) 2 → DSs X (defBody s_law_hull) (rd_law_hull sp_law_moved sp_law_least) := fun X c =>
  (ds_cons (ds_asg c (de_ct c g_law_hull_list T.b_list bt_list (c_list true) (da_cons (de_var c v_law_hull_0) da_nil)) (dg_name c l_law_hull_1) rfl rfl)
  (ds_cons (ds_for c (di_rng1 c g_law_hull_range T.b_range (da_cons de_int da_nil)) (dg_name c l_law_hull_2) (ds_one (ds_if (dt_cp (op_qLt c.hu0) rfl (de_var c v_law_hull_2) (de_cb c g_law_hull_len T.b_len bb_len c_len (da_cons (de_var c v_law_hull_1) da_nil))) (ds_cons (ds_asg c (de_ix (de_var c v_law_hull_1) (de_var c v_law_hull_2) (fun _ _ => rfl)) (dg_name c l_law_hull_3) rfl rfl)
          (ds_one (ds_for c (di_rng1 c g_law_hull_range T.b_range (da_cons (de_cb c g_law_hull_len T.b_len bb_len c_len (da_cons (de_var c v_law_hull_3) da_nil)) da_nil)) (dg_name c l_law_hull_4) (ds_one (ds_if (dt_cp op_qGt rfl (de_ix (de_var c v_law_hull_3) (de_var c v_law_hull_4) (fun _ _ => rfl)) de_int) (ds_one (ds_expr (de_extend (de_var c v_law_hull_1) (de_lc false [("b", 5)] c (by decide +kernel) (by decide) (di_seq (de_lc false [("j", 6)] c (by decide +kernel) (by decide) (di_rng1 c g_law_hull_range T.b_range (da_cons (de_var c v_law_hull_4) da_nil)) (fun _ c1 => (dg_name c1 (by decide +kernel))) (fun _ c1 => dts_nil) (fun _ c1 => (de_callC c1 (by decide +kernel) C_law_moved (by decide) (da_cons (de_var c1 (by decide +kernel)) (da_cons (de_var c1 (by decide +kernel)) (da_cons (de_var c1 (by decide +kernel)) da_nil))))))) (fun _ c1 => (dg_name c1 (by decide +kernel))) (fun _ c1 => (dts_one (dt_cp (op_qNotIn c1.hu65) rfl (de_var c1 (by decide +kernel)) (de_var c1 (by decide +kernel))))) (fun _ c1 => (de_var c1 (by decide +kernel))))))) ds_nil))))) ds_nil)))
  (ds_one (ds_ret (de_callC c g_law_hull_law_least C_law_least (by decide) (da_cons (de_var c v_law_hull_1) da_nil))))))
theorem o_law_hull {sp_law_moved : SpD} {sp_law_least : SpD} (T : Tx mg) (C_law_moved : Cl P w K mg base "_law_moved" 1 sp_law_moved) (C_law_least : Cl P w K mg base "_law_least" 2 sp_law_least) {f : Addr} {fd : FuncData} {sp : SpD} (Fu : Fun K "_law_hull" "_law_hull" s_law_hull f fd) (hm : mg "_law_hull" = some (.ref f)) (len : ∀ xs st Q, sp xs st Q → xs.length = 1) (sem : ∀ xs st Q, sp xs st Q → rd_law_hull sp_law_moved sp_law_least { nx := fun _ st' => Fg Q (.d .none) st', rt := Fg Q } (startD 7 xs) st) : Cl P w K mg base "_law_hull" 3 sp :=
  ⟨f, fd, ["monomials"], hm, Fu.kp, fn_ok Fu S_law_hull len (d_law_hull T C_law_moved C_law_least) sem, Fu.binds fun _ _ _ _ _ _ us hl => match us, hl with | [_], _ => rfl⟩
abbrev s_law_draw : Stmt := top 20
abbrev N_law_draw : List Str := ["m", "below", "found", "spot", "cells", "extra", "cell", "blend"]
theorem S_law_draw : FnScope N_law_draw ["m", "below"] (defScope s_law_draw) := ⟨rfl, rfl, rfl, by decide +kernel, rfl, by decide +kernel, by decide +kernel⟩
theorem v_law_draw_0 : visB N_law_draw (defScope s_law_draw) 0 "m" = true := by decide +kernel
theorem v_law_draw_1 : visB N_law_draw (defScope s_law_draw) 1 "below" = true := by decide +kernel
theorem v_law_draw_2 : visB N_law_draw (defScope s_law_draw) 2 "found" = true := by decide +kernel
theorem l_law_draw_2 : locB N_law_draw (defScope s_law_draw) (defScope s_law_draw) 2 "found" = true := by decide +kernel
theorem v_law_draw_3 : visB N_law_draw (defScope s_law_draw) 3 "spot" = true := by decide +kernel
theorem l_law_draw_3 : locB N_law_draw (defScope s_law_draw) (defScope s_law_draw) 3 "spot" = true := by decide +kernel
theorem v_law_draw_4 : visB N_law_draw (defScope s_law_draw) 4 "cells" = true := by decide +kernel
theorem v_law_draw_5 : visB N_law_draw (defScope s_law_draw) 5 "extra" = true := by decide +kernel
theorem v_law_draw_6 : visB N_law_draw (defScope s_law_draw) 6 "cell" = true := by decide +kernel
theorem l_law_draw_6 : locB N_law_draw (defScope s_law_draw) (defScope s_law_draw) 6 "cell" = true := by decide +kernel
theorem v_law_draw_7 : visB N_law_draw (defScope s_law_draw) 7 "blend" = true := by decide +kernel
theorem l_law_draw_7 : locB N_law_draw (defScope s_law_draw) (defScope s_law_draw) 7 "blend" = true := by decide +kernel
theorem g_law_draw_int : glB (defScope s_law_draw) "int" = true := by decide +kernel
theorem g_law_draw_len : glB (defScope s_law_draw) "len" = true := by decide +kernel
set_option maxHeartbeats 4000000 in
theorem d_law_draw  (T : Tx mg)  : ∀ X, Cok P w K mg base X N_law_draw (defScope s_law_draw) (defScope s_law_draw) 0 → DSs X (defBody s_law_draw) (rd_law_draw) := fun X c =>
  (ds_cons (ds_if (dt_cp op_qGt rfl (de_dget c (de_var c v_law_draw_0) de_str (fun _ _ => rfl)) de_int) (ds_cons (ds_asg c (de_bin op_qMod (de_ct c g_law_draw_int T.b_int bt_int c_int (da_cons (de_dget c (de_var c v_law_draw_0) de_str (fun _ _ => rfl)) da_nil)) (de_var c v_law_draw_1)) (dg_name c l_law_draw_2) rfl rfl)
      (ds_cons (ds_dput c (de_var c v_law_draw_0) de_str (de_bin op_qFdiv (de_dget c (de_var c v_law_draw_0) de_str (fun _ _ => rfl)) (de_var c v_law_draw_1)) rfl)
      (ds_one (ds_ret (de_var c v_law_draw_2))))) ds_nil)
  (ds_cons (ds_asg c (de_dget c (de_var c v_law_draw_0) de_str (fun _ _ => rfl)) (dg_name c l_law_draw_3) rfl rfl)
  (ds_cons (ds_dput c (de_var c v_law_draw_0) de_str (de_bin (op_qAdd false) (de_var c v_law_draw_3) de_int) rfl)
  (ds_cons (ds_par (i := 4) (j := 5) c (by decide +kernel) (da_cons (de_dget c (de_var c v_law_draw_0) de_str (fun _ _ => rfl)) (da_cons (de_bin (op_qAdd false) (de_dget c (de_var c v_law_draw_0) de_str (fun _ _ => rfl)) (de_bin (op_qMul false) (de_bin (op_qMul false) de_int (de_var c v_law_draw_3)) (de_var c v_law_draw_3))) da_nil)) (by kernel_rfl))
  (ds_cons (ds_asg c (de_ix (de_var c v_law_draw_4) (de_bin op_qMod (de_ct c g_law_draw_int T.b_int bt_int c_int (da_cons (de_var c v_law_draw_3) da_nil)) (de_cb c g_law_draw_len T.b_len bb_len c_len (da_cons (de_var c v_law_draw_4) da_nil))) (fun _ _ => rfl)) (dg_name c l_law_draw_6) rfl rfl)
  (ds_cons (ds_asg c (de_bin op_qMod (de_ct c g_law_draw_int T.b_int bt_int c_int (da_cons (de_bin (op_qAdd false) (de_bin (op_qMul false) (de_var c v_law_draw_6) (de_bin (op_qAdd false) (de_bin (op_qMul false) de_int (de_var c v_law_draw_3)) de_int)) (de_var c v_law_draw_5)) da_nil)) de_int) (dg_name c l_law_draw_7) rfl rfl)
  (ds_cons (ds_asg c (de_bin op_qMod (de_ct c g_law_draw_int T.b_int bt_int c_int (da_cons (de_bin (op_qAdd false) (de_bin (op_qAdd false) (de_bin (op_qMul false) (de_var c v_law_draw_7) (de_var c v_law_draw_7)) (de_bin (op_qMul false) de_int (de_var c v_law_draw_3))) (de_dget c (de_var c v_law_draw_0) de_str (fun _ _ => rfl))) da_nil)) de_int) (dg_name c l_law_draw_7) rfl rfl)
  (ds_one (ds_ret (de_bin op_qMod (de_bin op_qFdiv (de_bin op_qMod (de_ct c g_law_draw_int T.b_int bt_int c_int (da_cons (de_bin (op_qAdd false) (de_bin (op_qMul false) (de_var c v_law_draw_7) de_int) (de_var c v_law_draw_3)) da_nil)) de_int) de_int) (de_var c v_law_draw_1)))))))))))
theorem o_law_draw  (T : Tx mg)  {f : Addr} {fd : FuncData} {sp : SpD} (Fu : Fun K "_law_draw" "_law_draw" s_law_draw f fd) (hm : mg "_law_draw" = some (.ref f)) (len : ∀ xs st Q, sp xs st Q → xs.length = 2) (sem : ∀ xs st Q, sp xs st Q → rd_law_draw { nx := fun _ st' => Fg Q (.d .none) st', rt := Fg Q } (startD 8 xs) st) : Cl P w K mg base "_law_draw" 1 sp :=
  ⟨f, fd, ["m", "below"], hm, Fu.kp, fn_ok Fu S_law_draw len (d_law_draw T ) sem, Fu.binds fun _ _ _ _ _ _ us hl => match us, hl with | [_, _], _ => rfl⟩
abbrev s_law_monomial : Stmt := top 25
abbrev N_law_monomial : List Str := ["m", "n", "top", "k"]
theorem S_law_monomial : FnScope N_law_monomial ["m", "n", "top"] (defScope s_law_monomial) := ⟨rfl, rfl, rfl, by decide +kernel, rfl, by decide +kernel, by decide +kernel⟩
theorem v_law_monomial_1 : visB N_law_monomial (defScope s_law_monomial) 1 "n" = true := by decide +kernel
theorem g_law_monomial_range : glB (defScope s_law_monomial) "range" = true := by decide +kernel
theorem g_law_monomial_tuple : glB (defScope s_law_monomial) "tuple" = true := by decide +kernel
set_option maxHeartbeats 4000000 in
theorem d_law_monomial {sp_law_draw : SpD} (T : Tx mg) (C_law_draw : Cl P w K mg base "_law_draw" 1 sp_law_draw) : ∀ X, Cok P w K mg base X N_law_monomial (defScope s_law_monomial) (defScope s_law_monomial) 1 → DSs X (defBody s_law_monomial) (rd_law_monomial sp_law_draw) := fun X c =>
  (ds_one (ds_ret (de_ct c g_law_monomial_tuple T.b_tuple bt_tuple c_tuple (da_cons (de_lc false [("k", 3)] c (by decide +kernel) (by decide) (di_rng1 c g_law_monomial_range T.b_range (da_cons (de_var c v_law_monomial_1) da_nil)) (fun _ c1 => (dg_name c1 (by decide +kernel))) (fun _ c1 => dts_nil) (fun _ c1 => (de_if (dt_cp op_qGt rfl (de_callC c1 (by decide +kernel) C_law_draw (by decide) (da_cons (de_var c1 (by decide +kernel)) (da_cons de_int da_nil))) de_int) (de_callC c1 (by decide +kernel) C_law_draw (by decide) (da_cons (de_var c1 (by decide +kernel)) (da_cons (de_bin (op_qAdd false) (de_var c1 (by decide +kernel)) de_int) da_nil))) de_int))) da_nil))))
theorem o_law_monomial {sp_law_draw : SpD} (T : Tx mg) (C_law_draw : Cl P w K mg base "_law_draw" 1 sp_law_draw) {f : Addr} {fd : FuncData} {sp : SpD} (Fu : Fun K "_law_monomial" "_law_monomial" s_law_monomial f fd) (hm : mg "_law_monomial" = some (.ref f)) (len : ∀ xs st Q, sp xs st Q → xs.length = 3) (sem : ∀ xs st Q, sp xs st Q → rd_law_monomial sp_law_draw { nx := fun _ st' => Fg Q (.d .none) st', rt := Fg Q } (startD 4 xs) st) : Cl P w K mg base "_law_monomial" 2 sp :=
  ⟨f, fd, ["m", "n", "top"], hm, Fu.kp, fn_ok Fu S_law_monomial len (d_law_monomial T C_law_draw) sem, Fu.binds fun _ _ _ _ _ _ us hl => match us, hl with | [_, _, _], _ => rfl⟩
abbrev s_law_ideal : Stmt := top 26
abbrev N_law_ideal : List Str := ["m", "n", "count", "top", "some", "k", "a"]
theorem S_law_ideal : FnScope N_law_ideal ["m", "n", "count", "top"] (defScope s_law_ideal) := ⟨rfl, rfl, rfl, by decide +kernel, rfl, by decide +kernel, by decide +kernel⟩
theorem v_law_ideal_0 : visB N_law_ideal (defScope s_law_ideal) 0 "m" = true := by decide +kernel
theorem v_law_ideal_1 : visB N_law_ideal (defScope s_law_ideal) 1 "n" = true := by decide +kernel
theorem v_law_ideal_2 : visB N_law_ideal (defScope s_law_ideal) 2 "count" = true := by decide +kernel
theorem v_law_ideal_4 : visB N_law_ideal (defScope s_law_ideal) 4 "some" = true := by decide +kernel
theorem g_law_ideal_law_draw : glB (defScope s_law_ideal) "_law_draw" = true := by decide +kernel
theorem g_law_ideal_range : glB (defScope s_law_ideal) "range" = true := by decide +kernel
theorem g_law_ideal_law_least : glB (defScope s_law_ideal) "_law_least" = true := by decide +kernel
set_option maxHeartbeats 4000000 in
theorem d_law_ideal {sp_law_draw : SpD} {sp_law_monomial : SpD} {sp_law_least : SpD} (T : Tx mg) (C_law_draw : Cl P w K mg base "_law_draw" 1 sp_law_draw) (C_law_monomial : Cl P w K mg base "_law_monomial" 2 sp_law_monomial) (C_law_least : Cl P w K mg base "_law_least" 2 sp_law_least) : ∀ X, Cok P w K mg base X N_law_ideal (defScope s_law_ideal) (defScope s_law_ideal) 2 → DSs X (defBody s_law_ideal) (rd_law_ideal sp_law_draw sp_law_monomial sp_law_least) := fun X c =>
  (ds_cons (ds_setLc (i := 4) false [("k", 5)] c (by decide +kernel) (by kernel_rfl) (by decide +kernel) (by decide) (di_rng1 c g_law_ideal_range T.b_range (da_cons (de_callC c g_law_ideal_law_draw C_law_draw (by decide) (da_cons (de_var c v_law_ideal_0) (da_cons (de_bin (op_qAdd false) (de_var c v_law_ideal_2) de_int) da_nil))) da_nil)) (fun _ c1 => (dg_name c1 (by decide +kernel))) (fun _ c1 => dts_nil) (fun _ c1 => (de_callC c1 (by decide +kernel) C_law_monomial (by decide) (da_cons (de_var c1 (by decide +kernel)) (da_cons (de_var c1 (by decide +kernel)) (da_cons (de_var c1 (by decide +kernel)) da_nil))))))
  (ds_one (ds_ret (de_tup (da_cons (de_var c v_law_ideal_1) (da_cons (de_callC c g_law_ideal_law_least C_law_least (by decide) (da_cons (de_lc false [("a", 6)] c (by decide +kernel) (by decide) (di_seq (de_var c v_law_ideal_4)) (fun _ c1 => (dg_name c1 (by decide +kernel))) (fun _ c1 => (dts_one (dt_cp op_qGt rfl (de_cb c1 (by decide +kernel) T.b_sum bb_sum (c_sum c1.calm) (da_cons (de_var c1 (by decide +kernel)) da_nil)) de_int))) (fun _ c1 => (de_var c1 (by decide +kernel)))) da_nil)) da_nil))))))
theorem o_law_ideal {sp_law_draw : SpD} {sp_law_monomial : SpD} {sp_law_least : SpD} (T : Tx mg) (C_law_draw : Cl P w K mg base "_law_draw" 1 sp_law_draw) (C_law_monomial : Cl P w K mg base "_law_monomial" 2 sp_law_monomial) (C_law_least : Cl P w K mg base "_law_least" 2 sp_law_least) {f : Addr} {fd : FuncData} {sp : SpD} (Fu : Fun K "_law_ideal" "_law_ideal" s_law_ideal f fd) (hm : mg "_law_ideal" = some (.ref f)) (len : ∀ xs st Q, sp xs st Q → xs.length = 4) (sem : ∀ xs st Q, sp xs st Q → rd_law_ideal sp_law_draw sp_law_monomial sp_law_least { nx := fun _ st' => Fg Q (.d .none) st', rt := Fg Q } (startD 7 xs) st) : Cl P w K mg base "_law_ideal" 3 sp :=
  ⟨f, fd, ["m", "n", "count", "top"], hm, Fu.kp, fn_ok Fu S_law_ideal len (d_law_ideal T C_law_draw C_law_monomial C_law_least) sem, Fu.binds fun _ _ _ _ _ _ us hl => match us, hl with | [_, _, _, _], _ => rfl⟩
abbrev s_law_some_ideal : Stmt := top 32
abbrev N_law_some_ideal : List Str := ["m", "n", "hull", "a", "k"]
theorem S_law_some_ideal : FnScope N_law_some_ideal ["m"] (defScope s_law_some_ideal) := ⟨rfl, rfl, rfl, by decide +kernel, rfl, by decide +kernel, by decide +kernel⟩
theorem v_law_some_ideal_0 : visB N_law_some_ideal (defScope s_law_some_ideal) 0 "m" = true := by decide +kernel
theorem v_law_some_ideal_1 : visB N_law_some_ideal (defScope s_law_some_ideal) 1 "n" = true := by decide +kernel
theorem l_law_some_ideal_1 : locB N_law_some_ideal (defScope s_law_some_ideal) (defScope s_law_some_ideal) 1 "n" = true := by decide +kernel
theorem v_law_some_ideal_2 : visB N_law_some_ideal (defScope s_law_some_ideal) 2 "hull" = true := by decide +kernel
theorem l_law_some_ideal_2 : locB N_law_some_ideal (defScope s_law_some_ideal) (defScope s_law_some_ideal) 2 "hull" = true := by decide +kernel
theorem g_law_some_ideal_law_draw : glB (defScope s_law_some_ideal) "_law_draw" = true := by decide +kernel
theorem g_law_some_ideal_law_ideal : glB (defScope s_law_some_ideal) "_law_ideal" = true := by decide +kernel
theorem g_law_some_ideal_range : glB (defScope s_law_some_ideal) "range" = true := by decide +kernel
theorem g_law_some_ideal_law_hull : glB (defScope s_law_some_ideal) "_law_hull" = true := by decide +kernel
set_option maxHeartbeats 4000000 in
theorem d_law_some_ideal {sp_law_draw : SpD} {sp_law_ideal : SpD} {sp_law_monomial : SpD} {sp_law_hull : SpD} (T : Tx mg) (C_law_draw : Cl P w K mg base "_law_draw" 1 sp_law_draw) (C_law_ideal : Cl P w K mg base "_law_ideal" 3 sp_law_ideal) (C_law_monomial : Cl P w K mg base "_law_monomial" 2 sp_law_monomial) (C_law_hull : Cl P w K mg base "_law_hull" 3 sp_law_hull) : ∀ X, Cok P w K mg base X N_law_some_ideal (defScope s_law_some_ideal) (defScope s_law_some_ideal) 3 → DSs X (defBody s_law_some_ideal) (rd_law_some_ideal sp_law_draw sp_law_ideal sp_law_monomial sp_law_hull) := fun X c =>
  (ds_cons (ds_asg c (de_bin (op_qAdd false) de_int (de_callC c g_law_some_ideal_law_draw C_law_draw (by decide) (da_cons (de_var c v_law_some_ideal_0) (da_cons de_int da_nil)))) (dg_name c l_law_some_ideal_1) rfl rfl)
  (ds_cons (ds_if (dt_cp (op_qEq c.hu64) rfl (de_callC c g_law_some_ideal_law_draw C_law_draw (by decide) (da_cons (de_var c v_law_some_ideal_0) (da_cons de_int da_nil))) de_int) (ds_one (ds_ret (de_callC c g_law_some_ideal_law_ideal C_law_ideal (by decide) (da_cons (de_var c v_law_some_ideal_0) (da_cons (de_var c v_law_some_ideal_1) (da_cons de_int (da_cons (de_bin (op_qAdd false) de_int (de_callC c g_law_some_ideal_law_draw C_law_draw (by decide) (da_cons (de_var c v_law_some_ideal_0) (da_cons de_int da_nil)))) da_nil))))))) ds_nil)
  (ds_cons (ds_asg c (de_callC c g_law_some_ideal_law_hull C_law_hull (by decide) (da_cons (de_lc false [("a", 3)] c (by decide +kernel) (by decide) (di_seq (de_lc false [("k", 4)] c (by decide +kernel) (by decide) (di_rng1 c g_law_some_ideal_range T.b_range (da_cons de_int da_nil)) (fun _ c1 => (dg_name c1 (by decide +kernel))) (fun _ c1 => dts_nil) (fun _ c1 => (de_callC c1 (by decide +kernel) C_law_monomial (by decide) (da_cons (de_var c1 (by decide +kernel)) (da_cons (de_var c1 (by decide +kernel)) (da_cons de_int da_nil))))))) (fun _ c1 => (dg_name c1 (by decide +kernel))) (fun _ c1 => (dts_one (dt_cp op_qGt rfl (de_cb c1 (by decide +kernel) T.b_sum bb_sum (c_sum c1.calm) (da_cons (de_var c1 (by decide +kernel)) da_nil)) de_int))) (fun _ c1 => (de_var c1 (by decide +kernel)))) da_nil)) (dg_name c l_law_some_ideal_2) rfl rfl)
  (ds_one (ds_ret (de_tup (da_cons (de_var c v_law_some_ideal_1) (da_cons (de_sl false (de_var c v_law_some_ideal_2) do_none (do_some de_int)) da_nil))))))))
theorem o_law_some_ideal {sp_law_draw : SpD} {sp_law_ideal : SpD} {sp_law_monomial : SpD} {sp_law_hull : SpD} (T : Tx mg) (C_law_draw : Cl P w K mg base "_law_draw" 1 sp_law_draw) (C_law_ideal : Cl P w K mg base "_law_ideal" 3 sp_law_ideal) (C_law_monomial : Cl P w K mg base "_law_monomial" 2 sp_law_monomial) (C_law_hull : Cl P w K mg base "_law_hull" 3 sp_law_hull) {f : Addr} {fd : FuncData} {sp : SpD} (Fu : Fun K "_law_some_ideal" "_law_some_ideal" s_law_some_ideal f fd) (hm : mg "_law_some_ideal" = some (.ref f)) (len : ∀ xs st Q, sp xs st Q → xs.length = 1) (sem : ∀ xs st Q, sp xs st Q → rd_law_some_ideal sp_law_draw sp_law_ideal sp_law_monomial sp_law_hull { nx := fun _ st' => Fg Q (.d .none) st', rt := Fg Q } (startD 5 xs) st) : Cl P w K mg base "_law_some_ideal" 4 sp :=
  ⟨f, fd, ["m"], hm, Fu.kp, fn_ok Fu S_law_some_ideal len (d_law_some_ideal T C_law_draw C_law_ideal C_law_monomial C_law_hull) sem, Fu.binds fun _ _ _ _ _ _ us hl => match us, hl with | [_], _ => rfl⟩
abbrev s_lots_of : Stmt := top 15
abbrev N_lots_of : List Str := ["count", "found", "size"]
theorem S_lots_of : FnScope N_lots_of ["count"] (defScope s_lots_of) := ⟨rfl, rfl, rfl, by decide +kernel, rfl, by decide +kernel, by decide +kernel⟩
theorem v_lots_of_0 : visB N_lots_of (defScope s_lots_of) 0 "count" = true := by decide +kernel
theorem v_lots_of_1 : visB N_lots_of (defScope s_lots_of) 1 "found" = true := by decide +kernel
theorem l_lots_of_1 : locB N_lots_of (defScope s_lots_of) (defScope s_lots_of) 1 "found" = true := by decide +kernel
theorem v_lots_of_2 : visB N_lots_of (defScope s_lots_of) 2 "size" = true := by decide +kernel
theorem l_lots_of_2 : locB N_lots_of (defScope s_lots_of) (defScope s_lots_of) 2 "size" = true := by decide +kernel
theorem g_lots_of_range : glB (defScope s_lots_of) "range" = true := by decide +kernel
theorem g_lots_of_list : glB (defScope s_lots_of) "list" = true := by decide +kernel
theorem g_lots_of_combinations : glB (defScope s_lots_of) "combinations" = true := by decide +kernel
set_option maxHeartbeats 4000000 in
theorem d_lots_of  (T : Tx mg)  : ∀ X, Cok P w K mg base X N_lots_of (defScope s_lots_of) (defScope s_lots_of) 0 → DSs X (defBody s_lots_of) (rd_lots_of) := fun X c =>
  (ds_cons (ds_asg c (de_lst true da_nil) (dg_name c l_lots_of_1) rfl rfl)
  (ds_cons (ds_for c (di_rng3 c g_lots_of_range T.b_range (da_cons (de_var c v_lots_of_0) (da_cons (de_neg de_int) (da_cons (de_neg de_int) da_nil)))) (dg_name c l_lots_of_2) (ds_one (ds_expr (de_extend (de_var c v_lots_of_1) (de_listCR false c g_lots_of_list T.b_list g_lots_of_combinations T.m_combinations g_lots_of_range T.b_range (de_var c v_lots_of_0) (de_var c v_lots_of_2))))))
  (ds_one (ds_ret (de_var c v_lots_of_1)))))
theorem o_lots_of  (T : Tx mg)  {f : Addr} {fd : FuncData} {sp : SpD} (Fu : Fun K "lots_of" "lots_of" s_lots_of f fd) (hm : mg "lots_of" = some (.ref f)) (len : ∀ xs st Q, sp xs st Q → xs.length = 1) (sem : ∀ xs st Q, sp xs st Q → rd_lots_of { nx := fun _ st' => Fg Q (.d .none) st', rt := Fg Q } (startD 3 xs) st) : Cl P w K mg base "lots_of" 1 sp :=
  ⟨f, fd, ["count"], hm, Fu.kp, fn_ok Fu S_lots_of len (d_lots_of T ) sem, Fu.binds fun _ _ _ _ _ _ us hl => match us, hl with | [_], _ => rfl⟩
abbrev s_least_listing : Stmt := top 16
abbrev N_least_listing : List Str := ["count", "steps", "ends", "lot", "listing", "number", "one"]
theorem S_least_listing : FnScope N_least_listing ["count", "steps"] (defScope s_least_listing) := ⟨rfl, rfl, rfl, by decide +kernel, rfl, by decide +kernel, by decide +kernel⟩
theorem v_least_listing_0 : visB N_least_listing (defScope s_least_listing) 0 "count" = true := by decide +kernel
theorem v_least_listing_1 : visB N_least_listing (defScope s_least_listing) 1 "steps" = true := by decide +kernel
theorem v_least_listing_2 : visB N_least_listing (defScope s_least_listing) 2 "ends" = true := by decide +kernel
theorem l_least_listing_2 : locB N_least_listing (defScope s_least_listing) (defScope s_least_listing) 2 "ends" = true := by decide +kernel
theorem v_least_listing_3 : visB N_least_listing (defScope s_least_listing) 3 "lot" = true := by decide +kernel
theorem l_least_listing_3 : locB N_least_listing (defScope s_least_listing) (defScope s_least_listing) 3 "lot" = true := by decide +kernel
theorem v_least_listing_4 : visB N_least_listing (defScope s_least_listing) 4 "listing" = true := by decide +kernel
theorem l_least_listing_4 : locB N_least_listing (defScope s_least_listing) (defScope s_least_listing) 4 "listing" = true := by decide +kernel
theorem v_least_listing_5 : visB N_least_listing (defScope s_least_listing) 5 "number" = true := by decide +kernel
theorem l_least_listing_5 : locB N_least_listing (defScope s_least_listing) (defScope s_least_listing) 5 "number" = true := by decide +kernel
theorem g_least_listing_lots_of : glB (defScope s_least_listing) "lots_of" = true := by decide +kernel
theorem g_least_listing_len : glB (defScope s_least_listing) "len" = true := by decide +kernel
theorem g_least_listing_sorted : glB (defScope s_least_listing) "sorted" = true := by decide +kernel
theorem g_least_listing_tuple : glB (defScope s_least_listing) "tuple" = true := by decide +kernel
theorem g_least_listing_any : glB (defScope s_least_listing) "any" = true := by decide +kernel
set_option maxHeartbeats 4000000 in
theorem d_least_listing {sp_lots_of : SpD} (T : Tx mg) (C_lots_of : Cl P w K mg base "lots_of" 1 sp_lots_of) : ∀ X, Cok P w K mg base X N_least_listing (defScope s_least_listing) (defScope s_least_listing) 1 → DSs X (defBody s_least_listing) (rd_least_listing sp_lots_of) := fun X c =>
  (ds_cons (ds_asg c (de_dnew true) (dg_name c l_least_listing_2) rfl rfl)
  (ds_cons (ds_for c (di_seq (de_callC c g_least_listing_lots_of C_lots_of (by decide) (da_cons (de_var c v_least_listing_0) da_nil))) (dg_name c l_least_listing_3) (ds_one (ds_if (dt_cp (op_qEq c.hu64) rfl (de_cb c g_least_listing_len T.b_len bb_len c_len (da_cons (de_var c v_least_listing_3) da_nil)) (de_var c v_least_listing_0)) (ds_one (ds_dput c (de_var c v_least_listing_2) (de_var c v_least_listing_3) de_bl rfl)) (ds_one (ds_dput c (de_var c v_least_listing_2) (de_var c v_least_listing_3) (de_cb c g_least_listing_any T.b_any bb_any (c_any c.calm) (da_cons (de_lc false [("number", 5)] c (by decide +kernel) (by decide) (di_seq (de_dget c (de_var c v_least_listing_1) (de_var c v_least_listing_3) (fun _ _ => rfl))) (fun _ c1 => (dg_name c1 (by decide +kernel))) (fun _ c1 => dts_nil) (fun _ c1 => (de_dget c1 (de_var c1 (by decide +kernel)) (de_ct c1 (by decide +kernel) T.b_tuple bt_tuple c_tuple (da_cons (de_sortTI false c1 (by decide +kernel) T.b_sorted (de_bin (op_qAdd false) (de_var c1 (by decide +kernel)) (de_tup (da_cons (de_var c1 (by decide +kernel)) da_nil)))) da_nil)) (fun _ _ => rfl)))) da_nil)) rfl)))))
  (ds_cons (ds_if (dt_not (dt_val (de_dget c (de_var c v_least_listing_2) (de_tup da_nil) (fun _ _ => rfl)))) (ds_one (ds_ret de_non)) ds_nil)
  (ds_cons (ds_asg c (de_tup (da_cons (de_tup da_nil) (da_cons (de_tup da_nil) da_nil))) (dg_tup c (dgs_cons (dg_name c l_least_listing_4) (dgs_cons (dg_name c l_least_listing_3) dgs_nil))) rfl (by kernel_rfl))
  (ds_cons (ds_while c (dt_cp (op_qLt c.hu0) rfl (de_cb c g_least_listing_len T.b_len bb_len c_len (da_cons (de_var c v_least_listing_3) da_nil)) (de_var c v_least_listing_0)) (ds_cons (ds_asg c (de_ix (de_lc false [("one", 6)] c (by decide +kernel) (by decide) (di_seq (de_dget c (de_var c v_least_listing_1) (de_var c v_least_listing_3) (fun _ _ => rfl))) (fun _ c1 => (dg_name c1 (by decide +kernel))) (fun _ c1 => (dts_one (dt_val (de_dget c1 (de_var c1 (by decide +kernel)) (de_ct c1 (by decide +kernel) T.b_tuple bt_tuple c_tuple (da_cons (de_sortTI false c1 (by decide +kernel) T.b_sorted (de_bin (op_qAdd false) (de_var c1 (by decide +kernel)) (de_tup (da_cons (de_var c1 (by decide +kernel)) da_nil)))) da_nil)) (fun _ _ => rfl))))) (fun _ c1 => (de_var c1 (by decide +kernel)))) de_int (fun _ _ => rfl)) (dg_name c l_least_listing_5) rfl rfl)
      (ds_one (ds_asg c (de_tup (da_cons (de_bin (op_qAdd false) (de_var c v_least_listing_4) (de_tup (da_cons (de_var c v_least_listing_5) da_nil))) (da_cons (de_ct c g_least_listing_tuple T.b_tuple bt_tuple c_tuple (da_cons (de_sortTI false c g_least_listing_sorted T.b_sorted (de_bin (op_qAdd false) (de_var c v_least_listing_3) (de_tup (da_cons (de_var c v_least_listing_5) da_nil)))) da_nil)) da_nil))) (dg_tup c (dgs_cons (dg_name c l_least_listing_4) (dgs_cons (dg_name c l_least_listing_3) dgs_nil))) rfl (by kernel_rfl)))))
  (ds_one (ds_ret (de_var c v_least_listing_4))))))))
theorem o_least_listing {sp_lots_of : SpD} (T : Tx mg) (C_lots_of : Cl P w K mg base "lots_of" 1 sp_lots_of) {f : Addr} {fd : FuncData} {sp : SpD} (Fu : Fun K "least_listing" "least_listing" s_least_listing f fd) (hm : mg "least_listing" = some (.ref f)) (len : ∀ xs st Q, sp xs st Q → xs.length = 2) (sem : ∀ xs st Q, sp xs st Q → rd_least_listing sp_lots_of { nx := fun _ st' => Fg Q (.d .none) st', rt := Fg Q } (startD 7 xs) st) : Cl P w K mg base "least_listing" 2 sp :=
  ⟨f, fd, ["count", "steps"], hm, Fu.kp, fn_ok Fu S_least_listing len (d_least_listing T C_lots_of) sem, Fu.binds fun _ _ _ _ _ _ us hl => match us, hl with | [_, _], _ => rfl⟩
abbrev s_degree_of : Stmt := top 5
abbrev N_degree_of : List Str := ["monomial"]
theorem S_degree_of : FnScope N_degree_of ["monomial"] (defScope s_degree_of) := ⟨rfl, rfl, rfl, by decide +kernel, rfl, by decide +kernel, by decide +kernel⟩
theorem v_degree_of_0 : visB N_degree_of (defScope s_degree_of) 0 "monomial" = true := by decide +kernel
theorem g_degree_of_sum : glB (defScope s_degree_of) "sum" = true := by decide +kernel
set_option maxHeartbeats 4000000 in
theorem d_degree_of  (T : Tx mg)  : ∀ X, Cok P w K mg base X N_degree_of (defScope s_degree_of) (defScope s_degree_of) 0 → DSs X (defBody s_degree_of) (rd_degree_of) := fun X c =>
  (ds_one (ds_ret (de_cb c g_degree_of_sum T.b_sum bb_sum (c_sum c.calm) (da_cons (de_var c v_degree_of_0) da_nil))))
theorem o_degree_of  (T : Tx mg)  {f : Addr} {fd : FuncData} {sp : SpD} (Fu : Fun K "degree_of" "degree_of" s_degree_of f fd) (hm : mg "degree_of" = some (.ref f)) (len : ∀ xs st Q, sp xs st Q → xs.length = 1) (sem : ∀ xs st Q, sp xs st Q → rd_degree_of { nx := fun _ st' => Fg Q (.d .none) st', rt := Fg Q } (startD 1 xs) st) : Cl P w K mg base "degree_of" 1 sp :=
  ⟨f, fd, ["monomial"], hm, Fu.kp, fn_ok Fu S_degree_of len (d_degree_of T ) sem, Fu.binds fun _ _ _ _ _ _ us hl => match us, hl with | [_], _ => rfl⟩
abbrev s_divides : Stmt := top 6
abbrev N_divides : List Str := ["a", "b", "one", "other"]
theorem S_divides : FnScope N_divides ["a", "b"] (defScope s_divides) := ⟨rfl, rfl, rfl, by decide +kernel, rfl, by decide +kernel, by decide +kernel⟩
theorem v_divides_0 : visB N_divides (defScope s_divides) 0 "a" = true := by decide +kernel
theorem v_divides_1 : visB N_divides (defScope s_divides) 1 "b" = true := by decide +kernel
theorem v_divides_2 : visB N_divides (defScope s_divides) 2 "one" = true := by decide +kernel
theorem l_divides_2 : locB N_divides (defScope s_divides) (defScope s_divides) 2 "one" = true := by decide +kernel
theorem v_divides_3 : visB N_divides (defScope s_divides) 3 "other" = true := by decide +kernel
theorem l_divides_3 : locB N_divides (defScope s_divides) (defScope s_divides) 3 "other" = true := by decide +kernel
theorem g_divides_zip : glB (defScope s_divides) "zip" = true := by decide +kernel
set_option maxHeartbeats 4000000 in
theorem d_divides  (T : Tx mg)  : ∀ X, Cok P w K mg base X N_divides (defScope s_divides) (defScope s_divides) 0 → DSs X (defBody s_divides) (rd_divides) := fun X c =>
  (ds_cons (ds_for c (di_zip c g_divides_zip T.b_zip (da_cons (de_var c v_divides_0) (da_cons (de_var c v_divides_1) da_nil))) (dg_tup c (dgs_cons (dg_name c l_divides_2) (dgs_cons (dg_name c l_divides_3) dgs_nil))) (ds_one (ds_if (dt_cp op_qGt rfl (de_var c v_divides_2) (de_var c v_divides_3)) (ds_one (ds_ret de_bl)) ds_nil)))
  (ds_one (ds_ret de_bl)))
theorem o_divides  (T : Tx mg)  {f : Addr} {fd : FuncData} {sp : SpD} (Fu : Fun K "divides" "divides" s_divides f fd) (hm : mg "divides" = some (.ref f)) (len : ∀ xs st Q, sp xs st Q → xs.length = 2) (sem : ∀ xs st Q, sp xs st Q → rd_divides { nx := fun _ st' => Fg Q (.d .none) st', rt := Fg Q } (startD 4 xs) st) : Cl P w K mg base "divides" 1 sp :=
  ⟨f, fd, ["a", "b"], hm, Fu.kp, fn_ok Fu S_divides len (d_divides T ) sem, Fu.binds fun _ _ _ _ _ _ us hl => match us, hl with | [_, _], _ => rfl⟩
abbrev s_least_ones : Stmt := top 9
abbrev N_least_ones : List Str := ["monomials", "found", "monomial", "other"]
theorem S_least_ones : FnScope N_least_ones ["monomials"] (defScope s_least_ones) := ⟨rfl, rfl, rfl, by decide +kernel, rfl, by decide +kernel, by decide +kernel⟩
theorem v_least_ones_0 : visB N_least_ones (defScope s_least_ones) 0 "monomials" = true := by decide +kernel
theorem v_least_ones_1 : visB N_least_ones (defScope s_least_ones) 1 "found" = true := by decide +kernel
theorem l_least_ones_1 : locB N_least_ones (defScope s_least_ones) (defScope s_least_ones) 1 "found" = true := by decide +kernel
theorem v_least_ones_2 : visB N_least_ones (defScope s_least_ones) 2 "monomial" = true := by decide +kernel
theorem l_least_ones_2 : locB N_least_ones (defScope s_least_ones) (defScope s_least_ones) 2 "monomial" = true := by decide +kernel
theorem g_least_ones_sorted : glB (defScope s_least_ones) "sorted" = true := by decide +kernel
theorem g_least_ones_set : glB (defScope s_least_ones) "set" = true := by decide +kernel
theorem g_least_ones_any : glB (defScope s_least_ones) "any" = true := by decide +kernel
set_option maxHeartbeats 4000000 in
theorem d_least_ones {sp_divides : SpD} (T : Tx mg) (C_divides : Cl P w K mg base "divides" 1 sp_divides) : ∀ X, Cok P w K mg base X N_least_ones (defScope s_least_ones) (defScope s_least_ones) 1 → DSs X (defBody s_least_ones) (rd_least_ones sp_divides) := fun X c =>
  (ds_cons (ds_asg c (de_lst true da_nil) (dg_name c l_least_ones_1) rfl rfl)
  (ds_cons (ds_for c (di_seq (BS.de_sortB false c g_least_ones_sorted T.b_sorted g_least_ones_set T.b_set (de_var c v_least_ones_0))) (dg_name c l_least_ones_2) (ds_one (ds_if (dt_not (dt_val (de_cb c g_least_ones_any T.b_any bb_any (c_any c.calm) (da_cons (de_lc false [("other", 3)] c (by decide +kernel) (by decide) (di_seq (de_var c v_least_ones_1)) (fun _ c1 => (dg_name c1 (by decide +kernel))) (fun _ c1 => dts_nil) (fun _ c1 => (de_callC c1 (by decide +kernel) C_divides (by decide) (da_cons (de_var c1 (by decide +kernel)) (da_cons (de_var c1 (by decide +kernel)) da_nil))))) da_nil)))) (ds_one (ds_expr (de_append (de_var c v_least_ones_1) (de_var c v_least_ones_2)))) ds_nil)))
  (ds_one (ds_ret (de_var c v_least_ones_1)))))
theorem o_least_ones {sp_divides : SpD} (T : Tx mg) (C_divides : Cl P w K mg base "divides" 1 sp_divides) {f : Addr} {fd : FuncData} {sp : SpD} (Fu : Fun K "least_ones" "least_ones" s_least_ones f fd) (hm : mg "least_ones" = some (.ref f)) (len : ∀ xs st Q, sp xs st Q → xs.length = 1) (sem : ∀ xs st Q, sp xs st Q → rd_least_ones sp_divides { nx := fun _ st' => Fg Q (.d .none) st', rt := Fg Q } (startD 4 xs) st) : Cl P w K mg base "least_ones" 2 sp :=
  ⟨f, fd, ["monomials"], hm, Fu.kp, fn_ok Fu S_least_ones len (d_least_ones T C_divides) sem, Fu.binds fun _ _ _ _ _ _ us hl => match us, hl with | [_], _ => rfl⟩
abbrev s_cut : Stmt := top 7
abbrev N_cut : List Str := ["a", "b", "one", "other"]
theorem S_cut : FnScope N_cut ["a", "b"] (defScope s_cut) := ⟨rfl, rfl, rfl, by decide +kernel, rfl, by decide +kernel, by decide +kernel⟩
theorem v_cut_0 : visB N_cut (defScope s_cut) 0 "a" = true := by decide +kernel
theorem v_cut_1 : visB N_cut (defScope s_cut) 1 "b" = true := by decide +kernel
theorem g_cut_zip : glB (defScope s_cut) "zip" = true := by decide +kernel
theorem g_cut_tuple : glB (defScope s_cut) "tuple" = true := by decide +kernel
set_option maxHeartbeats 4000000 in
theorem d_cut  (T : Tx mg)  : ∀ X, Cok P w K mg base X N_cut (defScope s_cut) (defScope s_cut) 0 → DSs X (defBody s_cut) (rd_cut) := fun X c =>
  (ds_one (ds_ret (de_ct c g_cut_tuple T.b_tuple bt_tuple c_tuple (da_cons (de_lc false [("one", 2), ("other", 3)] c (by decide +kernel) (by decide) (di_zip c g_cut_zip T.b_zip (da_cons (de_var c v_cut_0) (da_cons (de_var c v_cut_1) da_nil))) (fun _ c1 => (dg_tup c1 (dgs_cons (dg_name c1 (by decide +kernel)) (dgs_cons (dg_name c1 (by decide +kernel)) dgs_nil)))) (fun _ c1 => dts_nil) (fun _ c1 => (de_cb c1 (by decide +kernel) T.b_max bb_max (c_max2 c1.calm) (da_cons (de_bin op_qSub (de_var c1 (by decide +kernel)) (de_var c1 (by decide +kernel))) (da_cons de_int da_nil))))) da_nil))))
theorem o_cut  (T : Tx mg)  {f : Addr} {fd : FuncData} {sp : SpD} (Fu : Fun K "cut" "cut" s_cut f fd) (hm : mg "cut" = some (.ref f)) (len : ∀ xs st Q, sp xs st Q → xs.length = 2) (sem : ∀ xs st Q, sp xs st Q → rd_cut { nx := fun _ st' => Fg Q (.d .none) st', rt := Fg Q } (startD 4 xs) st) : Cl P w K mg base "cut" 1 sp :=
  ⟨f, fd, ["a", "b"], hm, Fu.kp, fn_ok Fu S_cut len (d_cut T ) sem, Fu.binds fun _ _ _ _ _ _ us hl => match us, hl with | [_, _], _ => rfl⟩
abbrev s_cut_ahead : Stmt := top 12
abbrev N_cut_ahead : List Str := ["generators", "ahead", "number", "one"]
theorem S_cut_ahead : FnScope N_cut_ahead ["generators", "ahead", "number"] (defScope s_cut_ahead) := ⟨rfl, rfl, rfl, by decide +kernel, rfl, by decide +kernel, by decide +kernel⟩
theorem v_cut_ahead_1 : visB N_cut_ahead (defScope s_cut_ahead) 1 "ahead" = true := by decide +kernel
theorem g_cut_ahead_least_ones : glB (defScope s_cut_ahead) "least_ones" = true := by decide +kernel
set_option maxHeartbeats 4000000 in
theorem d_cut_ahead {sp_cut : SpD} {sp_least_ones : SpD} (T : Tx mg) (C_cut : Cl P w K mg base "cut" 1 sp_cut) (C_least_ones : Cl P w K mg base "least_ones" 2 sp_least_ones) : ∀ X, Cok P w K mg base X N_cut_ahead (defScope s_cut_ahead) (defScope s_cut_ahead) 2 → DSs X (defBody s_cut_ahead) (rd_cut_ahead sp_cut sp_least_ones) := fun X c =>
  (ds_one (ds_ret (de_callC c g_cut_ahead_least_ones C_least_ones (by decide) (da_cons (de_lc false [("one", 3)] c (by decide +kernel) (by decide) (di_seq (de_var c v_cut_ahead_1)) (fun _ c1 => (dg_name c1 (by decide +kernel))) (fun _ c1 => dts_nil) (fun _ c1 => (de_callC c1 (by decide +kernel) C_cut (by decide) (da_cons (de_ix (de_var c1 (by decide +kernel)) (de_var c1 (by decide +kernel)) (fun _ _ => rfl)) (da_cons (de_ix (de_var c1 (by decide +kernel)) (de_var c1 (by decide +kernel)) (fun _ _ => rfl)) da_nil))))) da_nil))))
theorem o_cut_ahead {sp_cut : SpD} {sp_least_ones : SpD} (T : Tx mg) (C_cut : Cl P w K mg base "cut" 1 sp_cut) (C_least_ones : Cl P w K mg base "least_ones" 2 sp_least_ones) {f : Addr} {fd : FuncData} {sp : SpD} (Fu : Fun K "cut_ahead" "cut_ahead" s_cut_ahead f fd) (hm : mg "cut_ahead" = some (.ref f)) (len : ∀ xs st Q, sp xs st Q → xs.length = 3) (sem : ∀ xs st Q, sp xs st Q → rd_cut_ahead sp_cut sp_least_ones { nx := fun _ st' => Fg Q (.d .none) st', rt := Fg Q } (startD 4 xs) st) : Cl P w K mg base "cut_ahead" 3 sp :=
  ⟨f, fd, ["generators", "ahead", "number"], hm, Fu.kp, fn_ok Fu S_cut_ahead len (d_cut_ahead T C_cut C_least_ones) sem, Fu.binds fun _ _ _ _ _ _ us hl => match us, hl with | [_, _, _], _ => rfl⟩
abbrev s_follows : Stmt := top 13
abbrev N_follows : List Str := ["generators", "ahead", "number", "degree", "one", "monomial"]
theorem S_follows : FnScope N_follows ["generators", "ahead", "number"] (defScope s_follows) := ⟨rfl, rfl, rfl, by decide +kernel, rfl, by decide +kernel, by decide +kernel⟩
theorem v_follows_0 : visB N_follows (defScope s_follows) 0 "generators" = true := by decide +kernel
theorem v_follows_1 : visB N_follows (defScope s_follows) 1 "ahead" = true := by decide +kernel
theorem v_follows_2 : visB N_follows (defScope s_follows) 2 "number" = true := by decide +kernel
theorem v_follows_3 : visB N_follows (defScope s_follows) 3 "degree" = true := by decide +kernel
theorem l_follows_3 : locB N_follows (defScope s_follows) (defScope s_follows) 3 "degree" = true := by decide +kernel
theorem v_follows_4 : visB N_follows (defScope s_follows) 4 "one" = true := by decide +kernel
theorem l_follows_4 : locB N_follows (defScope s_follows) (defScope s_follows) 4 "one" = true := by decide +kernel
theorem g_follows_degree_of : glB (defScope s_follows) "degree_of" = true := by decide +kernel
theorem g_follows_cut_ahead : glB (defScope s_follows) "cut_ahead" = true := by decide +kernel
theorem g_follows_all : glB (defScope s_follows) "all" = true := by decide +kernel
set_option maxHeartbeats 4000000 in
theorem d_follows {sp_degree_of : SpD} {sp_cut_ahead : SpD} (T : Tx mg) (C_degree_of : Cl P w K mg base "degree_of" 1 sp_degree_of) (C_cut_ahead : Cl P w K mg base "cut_ahead" 3 sp_cut_ahead) : ∀ X, Cok P w K mg base X N_follows (defScope s_follows) (defScope s_follows) 3 → DSs X (defBody s_follows) (rd_follows sp_degree_of sp_cut_ahead) := fun X c =>
  (ds_cons (ds_asg c (de_callC c g_follows_degree_of C_degree_of (by decide) (da_cons (de_ix (de_var c v_follows_0) (de_var c v_follows_2) (fun _ _ => rfl)) da_nil)) (dg_name c l_follows_3) rfl rfl)
  (ds_cons (ds_for c (di_seq (de_var c v_follows_1)) (dg_name c l_follows_4) (ds_one (ds_if (dt_cp op_qGt rfl (de_callC c g_follows_degree_of C_degree_of (by decide) (da_cons (de_ix (de_var c v_follows_0) (de_var c v_follows_4) (fun _ _ => rfl)) da_nil)) (de_var c v_follows_3)) (ds_one (ds_ret de_bl)) ds_nil)))
  (ds_one (ds_ret (de_cb c g_follows_all T.b_all bb_all (c_all c.calm) (da_cons (de_lc false [("monomial", 5)] c (by decide +kernel) (by decide) (di_seq (de_callC c g_follows_cut_ahead C_cut_ahead (by decide) (da_cons (de_var c v_follows_0) (da_cons (de_var c v_follows_1) (da_cons (de_var c v_follows_2) da_nil))))) (fun _ c1 => (dg_name c1 (by decide +kernel))) (fun _ c1 => dts_nil) (fun _ c1 => (de_cp (op_qEq c1.hu64) rfl (de_callC c1 (by decide +kernel) C_degree_of (by decide) (da_cons (de_var c1 (by decide +kernel)) da_nil)) de_int))) da_nil))))))
theorem o_follows {sp_degree_of : SpD} {sp_cut_ahead : SpD} (T : Tx mg) (C_degree_of : Cl P w K mg base "degree_of" 1 sp_degree_of) (C_cut_ahead : Cl P w K mg base "cut_ahead" 3 sp_cut_ahead) {f : Addr} {fd : FuncData} {sp : SpD} (Fu : Fun K "follows" "follows" s_follows f fd) (hm : mg "follows" = some (.ref f)) (len : ∀ xs st Q, sp xs st Q → xs.length = 3) (sem : ∀ xs st Q, sp xs st Q → rd_follows sp_degree_of sp_cut_ahead { nx := fun _ st' => Fg Q (.d .none) st', rt := Fg Q } (startD 6 xs) st) : Cl P w K mg base "follows" 4 sp :=
  ⟨f, fd, ["generators", "ahead", "number"], hm, Fu.kp, fn_ok Fu S_follows len (d_follows T C_degree_of C_cut_ahead) sem, Fu.binds fun _ _ _ _ _ _ us hl => match us, hl with | [_, _, _], _ => rfl⟩
abbrev s_quotient_listing : Stmt := top 17
abbrev N_quotient_listing : List Str := ["ideal", "generators", "count", "steps", "lot", "one"]
theorem S_quotient_listing : FnScope N_quotient_listing ["ideal"] (defScope s_quotient_listing) := ⟨rfl, rfl, rfl, by decide +kernel, rfl, by decide +kernel, by decide +kernel⟩
theorem v_quotient_listing_0 : visB N_quotient_listing (defScope s_quotient_listing) 0 "ideal" = true := by decide +kernel
theorem v_quotient_listing_1 : visB N_quotient_listing (defScope s_quotient_listing) 1 "generators" = true := by decide +kernel
theorem l_quotient_listing_1 : locB N_quotient_listing (defScope s_quotient_listing) (defScope s_quotient_listing) 1 "generators" = true := by decide +kernel
theorem v_quotient_listing_2 : visB N_quotient_listing (defScope s_quotient_listing) 2 "count" = true := by decide +kernel
theorem l_quotient_listing_2 : locB N_quotient_listing (defScope s_quotient_listing) (defScope s_quotient_listing) 2 "count" = true := by decide +kernel
theorem v_quotient_listing_3 : visB N_quotient_listing (defScope s_quotient_listing) 3 "steps" = true := by decide +kernel
theorem l_quotient_listing_3 : locB N_quotient_listing (defScope s_quotient_listing) (defScope s_quotient_listing) 3 "steps" = true := by decide +kernel
theorem v_quotient_listing_4 : visB N_quotient_listing (defScope s_quotient_listing) 4 "lot" = true := by decide +kernel
theorem l_quotient_listing_4 : locB N_quotient_listing (defScope s_quotient_listing) (defScope s_quotient_listing) 4 "lot" = true := by decide +kernel
theorem g_quotient_listing_len : glB (defScope s_quotient_listing) "len" = true := by decide +kernel
theorem g_quotient_listing_MOST_LISTED : glB (defScope s_quotient_listing) "MOST_LISTED" = true := by decide +kernel
theorem g_quotient_listing_lots_of : glB (defScope s_quotient_listing) "lots_of" = true := by decide +kernel
theorem g_quotient_listing_range : glB (defScope s_quotient_listing) "range" = true := by decide +kernel
theorem g_quotient_listing_least_listing : glB (defScope s_quotient_listing) "least_listing" = true := by decide +kernel
set_option maxHeartbeats 4000000 in
theorem d_quotient_listing {sp_lots_of : SpD} {sp_follows : SpD} {sp_least_listing : SpD} (T : Tx mg) (C_lots_of : Cl P w K mg base "lots_of" 1 sp_lots_of) (C_follows : Cl P w K mg base "follows" 4 sp_follows) (C_least_listing : Cl P w K mg base "least_listing" 2 sp_least_listing) : ∀ X, Cok P w K mg base X N_quotient_listing (defScope s_quotient_listing) (defScope s_quotient_listing) 4 → DSs X (defBody s_quotient_listing) (rd_quotient_listing sp_lots_of sp_follows sp_least_listing) := fun X c =>
  (ds_cons (ds_asg c (de_ix (de_var c v_quotient_listing_0) de_int (fun _ _ => rfl)) (dg_name c l_quotient_listing_1) rfl rfl)
  (ds_cons (ds_asg c (de_cb c g_quotient_listing_len T.b_len bb_len c_len (da_cons (de_var c v_quotient_listing_1) da_nil)) (dg_name c l_quotient_listing_2) rfl rfl)
  (ds_cons (ds_if (dt_cp op_qGt rfl (de_var c v_quotient_listing_2) (de_gint c g_quotient_listing_MOST_LISTED T.c_MOST_LISTED)) (ds_one ds_never) ds_nil)
  (ds_cons (ds_asg c (de_dnew true) (dg_name c l_quotient_listing_3) rfl rfl)
  (ds_cons (ds_for c (di_seq (de_callC c g_quotient_listing_lots_of C_lots_of (by decide) (da_cons (de_var c v_quotient_listing_2) da_nil))) (dg_name c l_quotient_listing_4) (ds_one (ds_dput c (de_var c v_quotient_listing_3) (de_var c v_quotient_listing_4) (de_lc false [("one", 5)] c (by decide +kernel) (by decide) (di_rng1 c g_quotient_listing_range T.b_range (da_cons (de_var c v_quotient_listing_2) da_nil)) (fun _ c1 => (dg_name c1 (by decide +kernel))) (fun _ c1 => (dts_one (DW.pt (dw_and (dt_cp (op_qNotIn c1.hu65) rfl (de_var c1 (by decide +kernel)) (de_var c1 (by decide +kernel))) (dw_and1 (dt_val (de_callC c1 (by decide +kernel) C_follows (by decide) (da_cons (de_var c1 (by decide +kernel)) (da_cons (de_var c1 (by decide +kernel)) (da_cons (de_var c1 (by decide +kernel)) da_nil)))))))))) (fun _ c1 => (de_var c1 (by decide +kernel)))) rfl)))
  (ds_one (ds_ret (de_callC c g_quotient_listing_least_listing C_least_listing (by decide) (da_cons (de_var c v_quotient_listing_2) (da_cons (de_var c v_quotient_listing_3) da_nil))))))))))
theorem o_quotient_listing {sp_lots_of : SpD} {sp_follows : SpD} {sp_least_listing : SpD} (T : Tx mg) (C_lots_of : Cl P w K mg base "lots_of" 1 sp_lots_of) (C_follows : Cl P w K mg base "follows" 4 sp_follows) (C_least_listing : Cl P w K mg base "least_listing" 2 sp_least_listing) {f : Addr} {fd : FuncData} {sp : SpD} (Fu : Fun K "quotient_listing" "quotient_listing" s_quotient_listing f fd) (hm : mg "quotient_listing" = some (.ref f)) (len : ∀ xs st Q, sp xs st Q → xs.length = 1) (sem : ∀ xs st Q, sp xs st Q → rd_quotient_listing sp_lots_of sp_follows sp_least_listing { nx := fun _ st' => Fg Q (.d .none) st', rt := Fg Q } (startD 6 xs) st) : Cl P w K mg base "quotient_listing" 5 sp :=
  ⟨f, fd, ["ideal"], hm, Fu.kp, fn_ok Fu S_quotient_listing len (d_quotient_listing T C_lots_of C_follows C_least_listing) sem, Fu.binds fun _ _ _ _ _ _ us hl => match us, hl with | [_], _ => rfl⟩
abbrev s_law_of : Stmt := top 21
abbrev N_law_of : List Str := ["m", "some"]
theorem S_law_of : FnScope N_law_of ["m", "some"] (defScope s_law_of) := ⟨rfl, rfl, rfl, by decide +kernel, rfl, by decide +kernel, by decide +kernel⟩
theorem v_law_of_0 : visB N_law_of (defScope s_law_of) 0 "m" = true := by decide +kernel
theorem v_law_of_1 : visB N_law_of (defScope s_law_of) 1 "some" = true := by decide +kernel
theorem g_law_of_len : glB (defScope s_law_of) "len" = true := by decide +kernel
theorem g_law_of_law_draw : glB (defScope s_law_of) "_law_draw" = true := by decide +kernel
set_option maxHeartbeats 4000000 in
theorem d_law_of {sp_law_draw : SpD} (T : Tx mg) (C_law_draw : Cl P w K mg base "_law_draw" 1 sp_law_draw) : ∀ X, Cok P w K mg base X N_law_of (defScope s_law_of) (defScope s_law_of) 1 → DSs X (defBody s_law_of) (rd_law_of sp_law_draw) := fun X c =>
  (ds_one (ds_ret (de_ix (de_var c v_law_of_1) (de_callC c g_law_of_law_draw C_law_draw (by decide) (da_cons (de_var c v_law_of_0) (da_cons (de_cb c g_law_of_len T.b_len bb_len c_len (da_cons (de_var c v_law_of_1) da_nil)) da_nil))) (fun _ _ => rfl))))
theorem o_law_of {sp_law_draw : SpD} (T : Tx mg) (C_law_draw : Cl P w K mg base "_law_draw" 1 sp_law_draw) {f : Addr} {fd : FuncData} {sp : SpD} (Fu : Fun K "_law_of" "_law_of" s_law_of f fd) (hm : mg "_law_of" = some (.ref f)) (len : ∀ xs st Q, sp xs st Q → xs.length = 2) (sem : ∀ xs st Q, sp xs st Q → rd_law_of sp_law_draw { nx := fun _ st' => Fg Q (.d .none) st', rt := Fg Q } (startD 2 xs) st) : Cl P w K mg base "_law_of" 2 sp :=
  ⟨f, fd, ["m", "some"], hm, Fu.kp, fn_ok Fu S_law_of len (d_law_of T C_law_draw) sem, Fu.binds fun _ _ _ _ _ _ us hl => match us, hl with | [_, _], _ => rfl⟩
abbrev s_law_shuffled : Stmt := top 29
abbrev N_law_shuffled : List Str := ["m", "count", "left", "found", "step", "one", "other"]
theorem S_law_shuffled : FnScope N_law_shuffled ["m", "count"] (defScope s_law_shuffled) := ⟨rfl, rfl, rfl, by decide +kernel, rfl, by decide +kernel, by decide +kernel⟩
theorem v_law_shuffled_0 : visB N_law_shuffled (defScope s_law_shuffled) 0 "m" = true := by decide +kernel
theorem v_law_shuffled_1 : visB N_law_shuffled (defScope s_law_shuffled) 1 "count" = true := by decide +kernel
theorem v_law_shuffled_2 : visB N_law_shuffled (defScope s_law_shuffled) 2 "left" = true := by decide +kernel
theorem v_law_shuffled_3 : visB N_law_shuffled (defScope s_law_shuffled) 3 "found" = true := by decide +kernel
theorem l_law_shuffled_4 : locB N_law_shuffled (defScope s_law_shuffled) (defScope s_law_shuffled) 4 "step" = true := by decide +kernel
theorem v_law_shuffled_5 : visB N_law_shuffled (defScope s_law_shuffled) 5 "one" = true := by decide +kernel
theorem l_law_shuffled_5 : locB N_law_shuffled (defScope s_law_shuffled) (defScope s_law_shuffled) 5 "one" = true := by decide +kernel
theorem g_law_shuffled_list : glB (defScope s_law_shuffled) "list" = true := by decide +kernel
theorem g_law_shuffled_range : glB (defScope s_law_shuffled) "range" = true := by decide +kernel
theorem g_law_shuffled_law_of : glB (defScope s_law_shuffled) "_law_of" = true := by decide +kernel
theorem g_law_shuffled_tuple : glB (defScope s_law_shuffled) "tuple" = true := by decide +kernel
set_option maxHeartbeats 4000000 in
theorem d_law_shuffled {sp_law_of : SpD} (T : Tx mg) (C_law_of : Cl P w K mg base "_law_of" 2 sp_law_of) : ∀ X, Cok P w K mg base X N_law_shuffled (defScope s_law_shuffled) (defScope s_law_shuffled) 2 → DSs X (defBody s_law_shuffled) (rd_law_shuffled sp_law_of) := fun X c =>
  (ds_cons (ds_par (i := 2) (j := 3) c (by decide +kernel) (da_cons (de_listRg false c g_law_shuffled_list T.b_list g_law_shuffled_range T.b_range (de_var c v_law_shuffled_1)) (da_cons (de_lst true da_nil) da_nil)) (by kernel_rfl))
  (ds_cons (ds_for c (di_rng1 c g_law_shuffled_range T.b_range (da_cons (de_var c v_law_shuffled_1) da_nil)) (dg_name c l_law_shuffled_4) (ds_cons (ds_asg c (de_callC c g_law_shuffled_law_of C_law_of (by decide) (da_cons (de_var c v_law_shuffled_0) (da_cons (de_var c v_law_shuffled_2) da_nil))) (dg_name c l_law_shuffled_5) rfl rfl)
      (ds_cons (ds_setLc (i := 2) false [("other", 6)] c (by decide +kernel) (by kernel_rfl) (by decide +kernel) (by decide) (di_seq (de_var c v_law_shuffled_2)) (fun _ c1 => (dg_name c1 (by decide +kernel))) (fun _ c1 => (dts_one (dt_cp (op_qNe c1.hu64) rfl (de_var c1 (by decide +kernel)) (de_var c1 (by decide +kernel))))) (fun _ c1 => (de_var c1 (by decide +kernel))))
      (ds_one (ds_expr (de_append (de_var c v_law_shuffled_3) (de_var c v_law_shuffled_5)))))))
  (ds_one (ds_ret (de_ct c g_law_shuffled_tuple T.b_tuple bt_tuple c_tuple (da_cons (de_var c v_law_shuffled_3) da_nil))))))
theorem o_law_shuffled {sp_law_of : SpD} (T : Tx mg) (C_law_of : Cl P w K mg base "_law_of" 2 sp_law_of) {f : Addr} {fd : FuncData} {sp : SpD} (Fu : Fun K "_law_shuffled" "_law_shuffled" s_law_shuffled f fd) (hm : mg "_law_shuffled" = some (.ref f)) (len : ∀ xs st Q, sp xs st Q → xs.length = 2) (sem : ∀ xs st Q, sp xs st Q → rd_law_shuffled sp_law_of { nx := fun _ st' => Fg Q (.d .none) st', rt := Fg Q } (startD 7 xs) st) : Cl P w K mg base "_law_shuffled" 3 sp :=
  ⟨f, fd, ["m", "count"], hm, Fu.kp, fn_ok Fu S_law_shuffled len (d_law_shuffled T C_law_of) sem, Fu.binds fun _ _ _ _ _ _ us hl => match us, hl with | [_, _], _ => rfl⟩
abbrev s_quotient_breach : Stmt := top 14
abbrev N_quotient_breach : List Str := ["ideal", "listing", "place", "number"]
theorem S_quotient_breach : FnScope N_quotient_breach ["ideal", "listing"] (defScope s_quotient_breach) := ⟨rfl, rfl, rfl, by decide +kernel, rfl, by decide +kernel, by decide +kernel⟩
theorem v_quotient_breach_0 : visB N_quotient_breach (defScope s_quotient_breach) 0 "ideal" = true := by decide +kernel
theorem v_quotient_breach_1 : visB N_quotient_breach (defScope s_quotient_breach) 1 "listing" = true := by decide +kernel
theorem v_quotient_breach_2 : visB N_quotient_breach (defScope s_quotient_breach) 2 "place" = true := by decide +kernel
theorem l_quotient_breach_2 : locB N_quotient_breach (defScope s_quotient_breach) (defScope s_quotient_breach) 2 "place" = true := by decide +kernel
theorem v_quotient_breach_3 : visB N_quotient_breach (defScope s_quotient_breach) 3 "number" = true := by decide +kernel
theorem l_quotient_breach_3 : locB N_quotient_breach (defScope s_quotient_breach) (defScope s_quotient_breach) 3 "number" = true := by decide +kernel
theorem g_quotient_breach_enumerate : glB (defScope s_quotient_breach) "enumerate" = true := by decide +kernel
theorem g_quotient_breach_follows : glB (defScope s_quotient_breach) "follows" = true := by decide +kernel
set_option maxHeartbeats 4000000 in
theorem d_quotient_breach {sp_follows : SpD} (T : Tx mg) (C_follows : Cl P w K mg base "follows" 4 sp_follows) : ∀ X, Cok P w K mg base X N_quotient_breach (defScope s_quotient_breach) (defScope s_quotient_breach) 4 → DSs X (defBody s_quotient_breach) (rd_quotient_breach sp_follows) := fun X c =>
  (ds_cons (ds_for c (di_enum c g_quotient_breach_enumerate T.b_enumerate (da_cons (de_var c v_quotient_breach_1) da_nil)) (dg_tup c (dgs_cons (dg_name c l_quotient_breach_2) (dgs_cons (dg_name c l_quotient_breach_3) dgs_nil))) (ds_one (ds_if (dt_not (dt_val (de_callC c g_quotient_breach_follows C_follows (by decide) (da_cons (de_ix (de_var c v_quotient_breach_0) de_int (fun _ _ => rfl)) (da_cons (de_sl false (de_var c v_quotient_breach_1) do_none (do_some (de_var c v_quotient_breach_2))) (da_cons (de_var c v_quotient_breach_3) da_nil)))))) (ds_one (ds_ret (de_var c v_quotient_breach_2))) ds_nil)))
  (ds_one (ds_ret de_non)))
theorem o_quotient_breach {sp_follows : SpD} (T : Tx mg) (C_follows : Cl P w K mg base "follows" 4 sp_follows) {f : Addr} {fd : FuncData} {sp : SpD} (Fu : Fun K "quotient_breach" "quotient_breach" s_quotient_breach f fd) (hm : mg "quotient_breach" = some (.ref f)) (len : ∀ xs st Q, sp xs st Q → xs.length = 2) (sem : ∀ xs st Q, sp xs st Q → rd_quotient_breach sp_follows { nx := fun _ st' => Fg Q (.d .none) st', rt := Fg Q } (startD 4 xs) st) : Cl P w K mg base "quotient_breach" 5 sp :=
  ⟨f, fd, ["ideal", "listing"], hm, Fu.kp, fn_ok Fu S_quotient_breach len (d_quotient_breach T C_follows) sem, Fu.binds fun _ _ _ _ _ _ us hl => match us, hl with | [_, _], _ => rfl⟩
abbrev s_law_listings : Stmt := top 28
abbrev N_law_listings : List Str := ["count", "found", "step", "longer", "one", "k"]
theorem S_law_listings : FnScope N_law_listings ["count"] (defScope s_law_listings) := ⟨rfl, rfl, rfl, by decide +kernel, rfl, by decide +kernel, by decide +kernel⟩
theorem v_law_listings_0 : visB N_law_listings (defScope s_law_listings) 0 "count" = true := by decide +kernel
theorem v_law_listings_1 : visB N_law_listings (defScope s_law_listings) 1 "found" = true := by decide +kernel
theorem l_law_listings_1 : locB N_law_listings (defScope s_law_listings) (defScope s_law_listings) 1 "found" = true := by decide +kernel
theorem l_law_listings_2 : locB N_law_listings (defScope s_law_listings) (defScope s_law_listings) 2 "step" = true := by decide +kernel
theorem v_law_listings_3 : visB N_law_listings (defScope s_law_listings) 3 "longer" = true := by decide +kernel
theorem l_law_listings_3 : locB N_law_listings (defScope s_law_listings) (defScope s_law_listings) 3 "longer" = true := by decide +kernel
theorem l_law_listings_4 : locB N_law_listings (defScope s_law_listings) (defScope s_law_listings) 4 "one" = true := by decide +kernel
theorem g_law_listings_range : glB (defScope s_law_listings) "range" = true := by decide +kernel
set_option maxHeartbeats 4000000 in
theorem d_law_listings  (T : Tx mg)  : ∀ X, Cok P w K mg base X N_law_listings (defScope s_law_listings) (defScope s_law_listings) 0 → DSs X (defBody s_law_listings) (rd_law_listings) := fun X c =>
  (ds_cons (ds_asg c (de_lst false (da_cons (de_tup da_nil) da_nil)) (dg_name c l_law_listings_1) rfl rfl)
  (ds_cons (ds_for c (di_rng1 c g_law_listings_range T.b_range (da_cons (de_var c v_law_listings_0) da_nil)) (dg_name c l_law_listings_2) (ds_cons (ds_asg c (de_lst true da_nil) (dg_name c l_law_listings_3) rfl rfl)
      (ds_cons (ds_for c (di_seq (de_var c v_law_listings_1)) (dg_name c l_law_listings_4) (ds_one (ds_expr (de_extend (de_var c v_law_listings_3) (de_lc false [("k", 5)] c (by decide +kernel) (by decide) (di_rng1 c g_law_listings_range T.b_range (da_cons (de_var c v_law_listings_0) da_nil)) (fun _ c1 => (dg_name c1 (by decide +kernel))) (fun _ c1 => (dts_one (dt_cp (op_qNotIn c1.hu65) rfl (de_var c1 (by decide +kernel)) (de_var c1 (by decide +kernel))))) (fun _ c1 => (de_bin (op_qAdd false) (de_var c1 (by decide +kernel)) (de_tup (da_cons (de_var c1 (by decide +kernel)) da_nil)))))))))
      (ds_one (ds_asg c (de_var c v_law_listings_3) (dg_name c l_law_listings_1) rfl rfl)))))
  (ds_one (ds_ret (de_var c v_law_listings_1)))))
theorem o_law_listings  (T : Tx mg)  {f : Addr} {fd : FuncData} {sp : SpD} (Fu : Fun K "_law_listings" "_law_listings" s_law_listings f fd) (hm : mg "_law_listings" = some (.ref f)) (len : ∀ xs st Q, sp xs st Q → xs.length = 1) (sem : ∀ xs st Q, sp xs st Q → rd_law_listings { nx := fun _ st' => Fg Q (.d .none) st', rt := Fg Q } (startD 6 xs) st) : Cl P w K mg base "_law_listings" 1 sp :=
  ⟨f, fd, ["count"], hm, Fu.kp, fn_ok Fu S_law_listings len (d_law_listings T ) sem, Fu.binds fun _ _ _ _ _ _ us hl => match us, hl with | [_], _ => rfl⟩
abbrev s_law_cut : Stmt := top 23
abbrev N_law_cut : List Str := ["a", "b", "k"]
theorem S_law_cut : FnScope N_law_cut ["a", "b"] (defScope s_law_cut) := ⟨rfl, rfl, rfl, by decide +kernel, rfl, by decide +kernel, by decide +kernel⟩
theorem v_law_cut_0 : visB N_law_cut (defScope s_law_cut) 0 "a" = true := by decide +kernel
theorem g_law_cut_len : glB (defScope s_law_cut) "len" = true := by decide +kernel
theorem g_law_cut_range : glB (defScope s_law_cut) "range" = true := by decide +kernel
theorem g_law_cut_tuple : glB (defScope s_law_cut) "tuple" = true := by decide +kernel
set_option maxHeartbeats 4000000 in
theorem d_law_cut  (T : Tx mg)  : ∀ X, Cok P w K mg base X N_law_cut (defScope s_law_cut) (defScope s_law_cut) 0 → DSs X (defBody s_law_cut) (rd_law_cut) := fun X c =>
  (ds_one (ds_ret (de_ct c g_law_cut_tuple T.b_tuple bt_tuple c_tuple (da_cons (de_lc false [("k", 2)] c (by decide +kernel) (by decide) (di_rng1 c g_law_cut_range T.b_range (da_cons (de_cb c g_law_cut_len T.b_len bb_len c_len (da_cons (de_var c v_law_cut_0) da_nil)) da_nil)) (fun _ c1 => (dg_name c1 (by decide +kernel))) (fun _ c1 => dts_nil) (fun _ c1 => (de_cb c1 (by decide +kernel) T.b_max bb_max (c_max2 c1.calm) (da_cons (de_bin op_qSub (de_ix (de_var c1 (by decide +kernel)) (de_var c1 (by decide +kernel)) (fun _ _ => rfl)) (de_ix (de_var c1 (by decide +kernel)) (de_var c1 (by decide +kernel)) (fun _ _ => rfl))) (da_cons de_int da_nil))))) da_nil))))
theorem o_law_cut  (T : Tx mg)  {f : Addr} {fd : FuncData} {sp : SpD} (Fu : Fun K "_law_cut" "_law_cut" s_law_cut f fd) (hm : mg "_law_cut" = some (.ref f)) (len : ∀ xs st Q, sp xs st Q → xs.length = 2) (sem : ∀ xs st Q, sp xs st Q → rd_law_cut { nx := fun _ st' => Fg Q (.d .none) st', rt := Fg Q } (startD 3 xs) st) : Cl P w K mg base "_law_cut" 1 sp :=
  ⟨f, fd, ["a", "b"], hm, Fu.kp, fn_ok Fu S_law_cut len (d_law_cut T ) sem, Fu.binds fun _ _ _ _ _ _ us hl => match us, hl with | [_, _], _ => rfl⟩
abbrev s_law_quotient_place : Stmt := top 27
abbrev N_law_quotient_place : List Str := ["generators", "listing", "place", "g", "ahead", "number", "a"]
theorem S_law_quotient_place : FnScope N_law_quotient_place ["generators", "listing"] (defScope s_law_quotient_place) := ⟨rfl, rfl, rfl, by decide +kernel, rfl, by decide +kernel, by decide +kernel⟩
theorem v_law_quotient_place_0 : visB N_law_quotient_place (defScope s_law_quotient_place) 0 "generators" = true := by decide +kernel
theorem v_law_quotient_place_1 : visB N_law_quotient_place (defScope s_law_quotient_place) 1 "listing" = true := by decide +kernel
theorem v_law_quotient_place_2 : visB N_law_quotient_place (defScope s_law_quotient_place) 2 "place" = true := by decide +kernel
theorem l_law_quotient_place_2 : locB N_law_quotient_place (defScope s_law_quotient_place) (defScope s_law_quotient_place) 2 "place" = true := by decide +kernel
theorem l_law_quotient_place_3 : locB N_law_quotient_place (defScope s_law_quotient_place) (defScope s_law_quotient_place) 3 "g" = true := by decide +kernel
theorem v_law_quotient_place_4 : visB N_law_quotient_place (defScope s_law_quotient_place) 4 "ahead" = true := by decide +kernel
theorem g_law_quotient_place_len : glB (defScope s_law_quotient_place) "len" = true := by decide +kernel
theorem g_law_quotient_place_range : glB (defScope s_law_quotient_place) "range" = true := by decide +kernel
theorem g_law_quotient_place_law_least : glB (defScope s_law_quotient_place) "_law_least" = true := by decide +kernel
set_option maxHeartbeats 4000000 in
theorem d_law_quotient_place {sp_law_cut : SpD} {sp_law_least : SpD} (T : Tx mg) (C_law_cut : Cl P w K mg base "_law_cut" 1 sp_law_cut) (C_law_least : Cl P w K mg base "_law_least" 2 sp_law_least) : ∀ X, Cok P w K mg base X N_law_quotient_place (defScope s_law_quotient_place) (defScope s_law_quotient_place) 2 → DSs X (defBody s_law_quotient_place) (rd_law_quotient_place sp_law_cut sp_law_least) := fun X c =>
  (ds_cons (ds_for c (di_rng1 c g_law_quotient_place_range T.b_range (da_cons (de_cb c g_law_quotient_place_len T.b_len bb_len c_len (da_cons (de_var c v_law_quotient_place_1) da_nil)) da_nil)) (dg_name c l_law_quotient_place_2) (ds_cons (ds_asg c (de_ix (de_var c v_law_quotient_place_0) (de_ix (de_var c v_law_quotient_place_1) (de_var c v_law_quotient_place_2) (fun _ _ => rfl)) (fun _ _ => rfl)) (dg_name c l_law_quotient_place_3) rfl rfl)
      (ds_cons (ds_setLc (i := 4) false [("number", 5)] c (by decide +kernel) (by kernel_rfl) (by decide +kernel) (by decide) (di_seq (de_sl false (de_var c v_law_quotient_place_1) do_none (do_some (de_var c v_law_quotient_place_2)))) (fun _ c1 => (dg_name c1 (by decide +kernel))) (fun _ c1 => dts_nil) (fun _ c1 => (de_ix (de_var c1 (by decide +kernel)) (de_var c1 (by decide +kernel)) (fun _ _ => rfl))))
      (ds_cons (ds_if (dt_cp (op_qNe c.hu64) rfl (de_lc false [("a", 6)] c (by decide +kernel) (by decide) (di_seq (de_var c v_law_quotient_place_4)) (fun _ c1 => (dg_name c1 (by decide +kernel))) (fun _ c1 => (dts_one (dt_cp op_qGt rfl (de_cb c1 (by decide +kernel) T.b_sum bb_sum (c_sum c1.calm) (da_cons (de_var c1 (by decide +kernel)) da_nil)) (de_cb c1 (by decide +kernel) T.b_sum bb_sum (c_sum c1.calm) (da_cons (de_var c1 (by decide +kernel)) da_nil))))) (fun _ c1 => (de_var c1 (by decide +kernel)))) (de_lst false da_nil)) (ds_one (ds_ret (de_var c v_law_quotient_place_2))) ds_nil)
      (ds_one (ds_if (dt_cp (op_qNe c.hu64) rfl (de_lc false [("a", 6)] c (by decide +kernel) (by decide) (di_seq (de_callC c g_law_quotient_place_law_least C_law_least (by decide) (da_cons (de_lc false [("a", 6)] c (by decide +kernel) (by decide) (di_seq (de_var c v_law_quotient_place_4)) (fun _ c1 => (dg_name c1 (by decide +kernel))) (fun _ c1 => dts_nil) (fun _ c1 => (de_callC c1 (by decide +kernel) C_law_cut (by decide) (da_cons (de_var c1 (by decide +kernel)) (da_cons (de_var c1 (by decide +kernel)) da_nil))))) da_nil))) (fun _ c1 => (dg_name c1 (by decide +kernel))) (fun _ c1 => (dts_one (dt_cp (op_qNe c1.hu64) rfl (de_cb c1 (by decide +kernel) T.b_sum bb_sum (c_sum c1.calm) (da_cons (de_var c1 (by decide +kernel)) da_nil)) de_int))) (fun _ c1 => (de_var c1 (by decide +kernel)))) (de_lst false da_nil)) (ds_one (ds_ret (de_var c v_law_quotient_place_2))) ds_nil))))))
  (ds_one (ds_ret de_non)))
theorem o_law_quotient_place {sp_law_cut : SpD} {sp_law_least : SpD} (T : Tx mg) (C_law_cut : Cl P w K mg base "_law_cut" 1 sp_law_cut) (C_law_least : Cl P w K mg base "_law_least" 2 sp_law_least) {f : Addr} {fd : FuncData} {sp : SpD} (Fu : Fun K "_law_quotient_place" "_law_quotient_place" s_law_quotient_place f fd) (hm : mg "_law_quotient_place" = some (.ref f)) (len : ∀ xs st Q, sp xs st Q → xs.length = 2) (sem : ∀ xs st Q, sp xs st Q → rd_law_quotient_place sp_law_cut sp_law_least { nx := fun _ st' => Fg Q (.d .none) st', rt := Fg Q } (startD 7 xs) st) : Cl P w K mg base "_law_quotient_place" 3 sp :=
  ⟨f, fd, ["generators", "listing"], hm, Fu.kp, fn_ok Fu S_law_quotient_place len (d_law_quotient_place T C_law_cut C_law_least) sem, Fu.binds fun _ _ _ _ _ _ us hl => match us, hl with | [_, _], _ => rfl⟩
abbrev s_law : Stmt := top 33
abbrev N_law : List Str := ["script", "k", "m", "n", "generators", "ideal", "count", "turn", "listing", "good", "found", "one"]
theorem S_law : FnScope N_law ["script"] (defScope s_law) := ⟨rfl, rfl, rfl, by decide +kernel, rfl, by decide +kernel, by decide +kernel⟩
theorem v_law_0 : visB N_law (defScope s_law) 0 "script" = true := by decide +kernel
theorem v_law_1 : visB N_law (defScope s_law) 1 "k" = true := by decide +kernel
theorem l_law_1 : locB N_law (defScope s_law) (defScope s_law) 1 "k" = true := by decide +kernel
theorem v_law_2 : visB N_law (defScope s_law) 2 "m" = true := by decide +kernel
theorem l_law_2 : locB N_law (defScope s_law) (defScope s_law) 2 "m" = true := by decide +kernel
theorem v_law_3 : visB N_law (defScope s_law) 3 "n" = true := by decide +kernel
theorem l_law_3 : locB N_law (defScope s_law) (defScope s_law) 3 "n" = true := by decide +kernel
theorem v_law_4 : visB N_law (defScope s_law) 4 "generators" = true := by decide +kernel
theorem l_law_4 : locB N_law (defScope s_law) (defScope s_law) 4 "generators" = true := by decide +kernel
theorem v_law_5 : visB N_law (defScope s_law) 5 "ideal" = true := by decide +kernel
theorem v_law_6 : visB N_law (defScope s_law) 6 "count" = true := by decide +kernel
theorem l_law_7 : locB N_law (defScope s_law) (defScope s_law) 7 "turn" = true := by decide +kernel
theorem v_law_8 : visB N_law (defScope s_law) 8 "listing" = true := by decide +kernel
theorem l_law_8 : locB N_law (defScope s_law) (defScope s_law) 8 "listing" = true := by decide +kernel
theorem v_law_9 : visB N_law (defScope s_law) 9 "good" = true := by decide +kernel
theorem v_law_10 : visB N_law (defScope s_law) 10 "found" = true := by decide +kernel
theorem l_law_10 : locB N_law (defScope s_law) (defScope s_law) 10 "found" = true := by decide +kernel
theorem g_law_range : glB (defScope s_law) "range" = true := by decide +kernel
theorem g_law_law_begun : glB (defScope s_law) "_law_begun" = true := by decide +kernel
theorem g_law_law_some_ideal : glB (defScope s_law) "_law_some_ideal" = true := by decide +kernel
theorem g_law_len : glB (defScope s_law) "len" = true := by decide +kernel
theorem g_law_law_shuffled : glB (defScope s_law) "_law_shuffled" = true := by decide +kernel
theorem g_law_quotient_breach : glB (defScope s_law) "quotient_breach" = true := by decide +kernel
theorem g_law_repr : glB (defScope s_law) "repr" = true := by decide +kernel
theorem g_law_law_quotient_place : glB (defScope s_law) "_law_quotient_place" = true := by decide +kernel
theorem g_law_law_listings : glB (defScope s_law) "_law_listings" = true := by decide +kernel
theorem g_law_quotient_listing : glB (defScope s_law) "quotient_listing" = true := by decide +kernel
set_option maxHeartbeats 4000000 in
theorem d_law {sp_law_begun : SpD} {sp_law_some_ideal : SpD} {sp_law_shuffled : SpD} {sp_quotient_breach : SpD} {sp_law_quotient_place : SpD} {sp_law_listings : SpD} {sp_quotient_listing : SpD} (T : Tx mg) (C_law_begun : Cl P w K mg base "_law_begun" 1 sp_law_begun) (C_law_some_ideal : Cl P w K mg base "_law_some_ideal" 4 sp_law_some_ideal) (C_law_shuffled : Cl P w K mg base "_law_shuffled" 3 sp_law_shuffled) (C_quotient_breach : Cl P w K mg base "quotient_breach" 5 sp_quotient_breach) (C_law_quotient_place : Cl P w K mg base "_law_quotient_place" 3 sp_law_quotient_place) (C_law_listings : Cl P w K mg base "_law_listings" 1 sp_law_listings) (C_quotient_listing : Cl P w K mg base "quotient_listing" 5 sp_quotient_listing) : ∀ X, Cok P w K mg base X N_law (defScope s_law) (defScope s_law) 5 → X.A.guards = some [] → DSs X (defBody s_law) (rd_law sp_law_begun sp_law_some_ideal sp_law_shuffled sp_quotient_breach sp_law_quotient_place sp_law_listings sp_quotient_listing) := fun X c hg =>
  (ds_cons (ds_for c (di_rng1 c g_law_range T.b_range (da_cons de_int da_nil)) (dg_name c l_law_1) (ds_cons (ds_asg c (de_callC c g_law_law_begun C_law_begun (by decide) (da_cons (de_var c v_law_0) (da_cons (de_var c v_law_1) da_nil))) (dg_name c l_law_2) rfl rfl)
      (ds_cons (ds_asg c (de_callC c g_law_law_some_ideal C_law_some_ideal (by decide) (da_cons (de_var c v_law_2) da_nil)) (dg_tup c (dgs_cons (dg_name c l_law_3) (dgs_cons (dg_name c l_law_4) dgs_nil))) rfl rfl)
      (ds_cons (ds_par (i := 5) (j := 6) c (by decide +kernel) (da_cons (de_tup (da_cons (de_var c v_law_3) (da_cons (de_var c v_law_4) da_nil))) (da_cons (de_cb c g_law_len T.b_len bb_len c_len (da_cons (de_var c v_law_4) da_nil)) da_nil)) (by kernel_rfl))
      (ds_cons (ds_for c (di_rng1 c g_law_range T.b_range (da_cons de_int da_nil)) (dg_name c l_law_7) (ds_cons (ds_asg c (de_callC c g_law_law_shuffled C_law_shuffled (by decide) (da_cons (de_var c v_law_2) (da_cons (de_var c v_law_6) da_nil))) (dg_name c l_law_8) rfl rfl)
          (ds_one (ds_if (dt_cp op_qNeS rfl (de_cb c g_law_repr T.b_repr bb_repr (c_repr hg c.hu64) (da_cons (de_callC c g_law_quotient_breach C_quotient_breach (by decide) (da_cons (de_var c v_law_5) (da_cons (de_var c v_law_8) da_nil))) da_nil)) (de_cb c g_law_repr T.b_repr bb_repr (c_repr hg c.hu64) (da_cons (de_callC c g_law_law_quotient_place C_law_quotient_place (by decide) (da_cons (de_var c v_law_4) (da_cons (de_var c v_law_8) da_nil))) da_nil))) (ds_one (ds_ret de_bl)) ds_nil))))
      (ds_cons (ds_setLc (i := 9) false [("one", 11)] c (by decide +kernel) (by kernel_rfl) (by decide +kernel) (by decide) (di_seq (de_callC c g_law_law_listings C_law_listings (by decide) (da_cons (de_var c v_law_6) da_nil))) (fun _ c1 => (dg_name c1 (by decide +kernel))) (fun _ c1 => (dts_one (dt_cp op_qIsN rfl (de_callC c1 (by decide +kernel) C_law_quotient_place (by decide) (da_cons (de_var c1 (by decide +kernel)) (da_cons (de_var c1 (by decide +kernel)) da_nil))) de_non))) (fun _ c1 => (de_var c1 (by decide +kernel))))
      (ds_cons (ds_asg c (de_callC c g_law_quotient_listing C_quotient_listing (by decide) (da_cons (de_var c v_law_5) da_nil)) (dg_name c l_law_10) rfl rfl)
      (ds_cons (ds_if (dt_cp op_qNeS rfl (de_cb c g_law_repr T.b_repr bb_repr (c_repr hg c.hu64) (da_cons (de_var c v_law_10) da_nil)) (de_cb c g_law_repr T.b_repr bb_repr (c_repr hg c.hu64) (da_cons (de_if (dt_cp (op_qNe c.hu64) rfl (de_var c v_law_9) (de_lst false da_nil)) (de_ix (de_var c v_law_9) de_int (fun _ _ => rfl)) de_non) da_nil))) (ds_one (ds_ret de_bl)) ds_nil)
      (ds_one (ds_if (DW.pt (dw_and (dt_cp op_qNotN rfl (de_var c v_law_10) de_non) (dw_and1 (dt_cp op_qNotN rfl (de_callC c g_law_quotient_breach C_quotient_breach (by decide) (da_cons (de_var c v_law_5) (da_cons (de_var c v_law_10) da_nil))) de_non)))) (ds_one (ds_ret de_bl)) ds_nil))))))))))
  (ds_cons (ds_if (DW.pt (dw_or (dt_cp (op_qNe c.hu64) rfl (de_callC c g_law_quotient_listing C_quotient_listing (by decide) (da_cons (de_tup (da_cons de_int (da_cons (de_tup da_nil) da_nil))) da_nil)) (de_tup da_nil)) (dw_or1 (dt_cp op_qNotN rfl (de_callC c g_law_quotient_breach C_quotient_breach (by decide) (da_cons (de_tup (da_cons de_int (da_cons (de_tup da_nil) da_nil))) (da_cons (de_tup da_nil) da_nil))) de_non)))) (ds_one (ds_ret de_bl)) ds_nil)
  (ds_one (ds_ret (de_cp (op_qEq c.hu64) rfl (de_callC c g_law_quotient_listing C_quotient_listing (by decide) (da_cons (de_tup (da_cons de_int (da_cons (de_tup (da_cons (de_tup (da_cons de_int (da_cons de_int da_nil))) da_nil)) da_nil))) da_nil)) (de_tup (da_cons de_int da_nil)))))))
end
open U UC
theorem all_mk {l : PySem.W.OpenLaw} {w : World} {K : PySem.W.Frag} {h : Heap} {mg : Str → Option Value} {fa : Addr} (X : K.In h) (G : h.Ns mainGlobals mg) (hfa : mg "law" = some (.ref fa))
    {f_law_begun : Addr} {od_law_begun an_law_begun : Option Addr} {sl_law_begun : Array (Option Value)} {oc_law_begun kV_law_begun dc_law_begun pm_law_begun cd_law_begun ct_law_begun : Value}
    (a_law_begun : PySem.W.nsIn K mainGlobals "_law_begun" = some (some (.ref f_law_begun))) (l_law_begun : K.lookup f_law_begun = some ⟨oc_law_begun, od_law_begun, .func (PySem.W.fnOf "_law_begun" "_law_begun" (defArgs s_law_begun) (defBody s_law_begun) (defScope s_law_begun) .none kV_law_begun dc_law_begun pm_law_begun an_law_begun cd_law_begun ct_law_begun), sl_law_begun⟩) (cc_law_begun : PySem.W.codeIn K cd_law_begun "_law_begun" = true) (k_law_begun : PySem.W.keepIn K (.ref f_law_begun) = true)
    {f_law_divides : Addr} {od_law_divides an_law_divides : Option Addr} {sl_law_divides : Array (Option Value)} {oc_law_divides kV_law_divides dc_law_divides pm_law_divides cd_law_divides ct_law_divides : Value}
    (a_law_divides : PySem.W.nsIn K mainGlobals "_law_divides" = some (some (.ref f_law_divides))) (l_law_divides : K.lookup f_law_divides = some ⟨oc_law_divides, od_law_divides, .func (PySem.W.fnOf "_law_divides" "_law_divides" (defArgs s_law_divides) (defBody s_law_divides) (defScope s_law_divides) .none kV_law_divides dc_law_divides pm_law_divides an_law_divides cd_law_divides ct_law_divides), sl_law_divides⟩) (cc_law_divides : PySem.W.codeIn K cd_law_divides "_law_divides" = true) (k_law_divides : PySem.W.keepIn K (.ref f_law_divides) = true)
    {f_law_least : Addr} {od_law_least an_law_least : Option Addr} {sl_law_least : Array (Option Value)} {oc_law_least kV_law_least dc_law_least pm_law_least cd_law_least ct_law_least : Value}
    (a_law_least : PySem.W.nsIn K mainGlobals "_law_least" = some (some (.ref f_law_least))) (l_law_least : K.lookup f_law_least = some ⟨oc_law_least, od_law_least, .func (PySem.W.fnOf "_law_least" "_law_least" (defArgs s_law_least) (defBody s_law_least) (defScope s_law_least) .none kV_law_least dc_law_least pm_law_least an_law_least cd_law_least ct_law_least), sl_law_least⟩) (cc_law_least : PySem.W.codeIn K cd_law_least "_law_least" = true) (k_law_least : PySem.W.keepIn K (.ref f_law_least) = true)
    {f_law_moved : Addr} {od_law_moved an_law_moved : Option Addr} {sl_law_moved : Array (Option Value)} {oc_law_moved kV_law_moved dc_law_moved pm_law_moved cd_law_moved ct_law_moved : Value}
    (a_law_moved : PySem.W.nsIn K mainGlobals "_law_moved" = some (some (.ref f_law_moved))) (l_law_moved : K.lookup f_law_moved = some ⟨oc_law_moved, od_law_moved, .func (PySem.W.fnOf "_law_moved" "_law_moved" (defArgs s_law_moved) (defBody s_law_moved) (defScope s_law_moved) .none kV_law_moved dc_law_moved pm_law_moved an_law_moved cd_law_moved ct_law_moved), sl_law_moved⟩) (cc_law_moved : PySem.W.codeIn K cd_law_moved "_law_moved" = true) (k_law_moved : PySem.W.keepIn K (.ref f_law_moved) = true)
    {f_law_hull : Addr} {od_law_hull an_law_hull : Option Addr} {sl_law_hull : Array (Option Value)} {oc_law_hull kV_law_hull dc_law_hull pm_law_hull cd_law_hull ct_law_hull : Value}
    (a_law_hull : PySem.W.nsIn K mainGlobals "_law_hull" = some (some (.ref f_law_hull))) (l_law_hull : K.lookup f_law_hull = some ⟨oc_law_hull, od_law_hull, .func (PySem.W.fnOf "_law_hull" "_law_hull" (defArgs s_law_hull) (defBody s_law_hull) (defScope s_law_hull) .none kV_law_hull dc_law_hull pm_law_hull an_law_hull cd_law_hull ct_law_hull), sl_law_hull⟩) (cc_law_hull : PySem.W.codeIn K cd_law_hull "_law_hull" = true) (k_law_hull : PySem.W.keepIn K (.ref f_law_hull) = true)
    {f_law_draw : Addr} {od_law_draw an_law_draw : Option Addr} {sl_law_draw : Array (Option Value)} {oc_law_draw kV_law_draw dc_law_draw pm_law_draw cd_law_draw ct_law_draw : Value}
    (a_law_draw : PySem.W.nsIn K mainGlobals "_law_draw" = some (some (.ref f_law_draw))) (l_law_draw : K.lookup f_law_draw = some ⟨oc_law_draw, od_law_draw, .func (PySem.W.fnOf "_law_draw" "_law_draw" (defArgs s_law_draw) (defBody s_law_draw) (defScope s_law_draw) .none kV_law_draw dc_law_draw pm_law_draw an_law_draw cd_law_draw ct_law_draw), sl_law_draw⟩) (cc_law_draw : PySem.W.codeIn K cd_law_draw "_law_draw" = true) (k_law_draw : PySem.W.keepIn K (.ref f_law_draw) = true)
    {f_law_monomial : Addr} {od_law_monomial an_law_monomial : Option Addr} {sl_law_monomial : Array (Option Value)} {oc_law_monomial kV_law_monomial dc_law_monomial pm_law_monomial cd_law_monomial ct_law_monomial : Value}
    (a_law_monomial : PySem.W.nsIn K mainGlobals "_law_monomial" = some (some (.ref f_law_monomial))) (l_law_monomial : K.lookup f_law_monomial = some ⟨oc_law_monomial, od_law_monomial, .func (PySem.W.fnOf "_law_monomial" "_law_monomial" (defArgs s_law_monomial) (defBody s_law_monomial) (defScope s_law_monomial) .none kV_law_monomial dc_law_monomial pm_law_monomial an_law_monomial cd_law_monomial ct_law_monomial), sl_law_monomial⟩) (cc_law_monomial : PySem.W.codeIn K cd_law_monomial "_law_monomial" = true) (k_law_monomial : PySem.W.keepIn K (.ref f_law_monomial) = true)
    {f_law_ideal : Addr} {od_law_ideal an_law_ideal : Option Addr} {sl_law_ideal : Array (Option Value)} {oc_law_ideal kV_law_ideal dc_law_ideal pm_law_ideal cd_law_ideal ct_law_ideal : Value}
    (a_law_ideal : PySem.W.nsIn K mainGlobals "_law_ideal" = some (some (.ref f_law_ideal))) (l_law_ideal : K.lookup f_law_ideal = some ⟨oc_law_ideal, od_law_ideal, .func (PySem.W.fnOf "_law_ideal" "_law_ideal" (defArgs s_law_ideal) (defBody s_law_ideal) (defScope s_law_ideal) .none kV_law_ideal dc_law_ideal pm_law_ideal an_law_ideal cd_law_ideal ct_law_ideal), sl_law_ideal⟩) (cc_law_ideal : PySem.W.codeIn K cd_law_ideal "_law_ideal" = true) (k_law_ideal : PySem.W.keepIn K (.ref f_law_ideal) = true)
    {f_law_some_ideal : Addr} {od_law_some_ideal an_law_some_ideal : Option Addr} {sl_law_some_ideal : Array (Option Value)} {oc_law_some_ideal kV_law_some_ideal dc_law_some_ideal pm_law_some_ideal cd_law_some_ideal ct_law_some_ideal : Value}
    (a_law_some_ideal : PySem.W.nsIn K mainGlobals "_law_some_ideal" = some (some (.ref f_law_some_ideal))) (l_law_some_ideal : K.lookup f_law_some_ideal = some ⟨oc_law_some_ideal, od_law_some_ideal, .func (PySem.W.fnOf "_law_some_ideal" "_law_some_ideal" (defArgs s_law_some_ideal) (defBody s_law_some_ideal) (defScope s_law_some_ideal) .none kV_law_some_ideal dc_law_some_ideal pm_law_some_ideal an_law_some_ideal cd_law_some_ideal ct_law_some_ideal), sl_law_some_ideal⟩) (cc_law_some_ideal : PySem.W.codeIn K cd_law_some_ideal "_law_some_ideal" = true) (k_law_some_ideal : PySem.W.keepIn K (.ref f_law_some_ideal) = true)
    {f_lots_of : Addr} {od_lots_of an_lots_of : Option Addr} {sl_lots_of : Array (Option Value)} {oc_lots_of kV_lots_of dc_lots_of pm_lots_of cd_lots_of ct_lots_of : Value}
    (a_lots_of : PySem.W.nsIn K mainGlobals "lots_of" = some (some (.ref f_lots_of))) (l_lots_of : K.lookup f_lots_of = some ⟨oc_lots_of, od_lots_of, .func (PySem.W.fnOf "lots_of" "lots_of" (defArgs s_lots_of) (defBody s_lots_of) (defScope s_lots_of) .none kV_lots_of dc_lots_of pm_lots_of an_lots_of cd_lots_of ct_lots_of), sl_lots_of⟩) (cc_lots_of : PySem.W.codeIn K cd_lots_of "lots_of" = true) (k_lots_of : PySem.W.keepIn K (.ref f_lots_of) = true)
    {f_least_listing : Addr} {od_least_listing an_least_listing : Option Addr} {sl_least_listing : Array (Option Value)} {oc_least_listing kV_least_listing dc_least_listing pm_least_listing cd_least_listing ct_least_listing : Value}
    (a_least_listing : PySem.W.nsIn K mainGlobals "least_listing" = some (some (.ref f_least_listing))) (l_least_listing : K.lookup f_least_listing = some ⟨oc_least_listing, od_least_listing, .func (PySem.W.fnOf "least_listing" "least_listing" (defArgs s_least_listing) (defBody s_least_listing) (defScope s_least_listing) .none kV_least_listing dc_least_listing pm_least_listing an_least_listing cd_least_listing ct_least_listing), sl_least_listing⟩) (cc_least_listing : PySem.W.codeIn K cd_least_listing "least_listing" = true) (k_least_listing : PySem.W.keepIn K (.ref f_least_listing) = true)
    {f_degree_of : Addr} {od_degree_of an_degree_of : Option Addr} {sl_degree_of : Array (Option Value)} {oc_degree_of kV_degree_of dc_degree_of pm_degree_of cd_degree_of ct_degree_of : Value}
    (a_degree_of : PySem.W.nsIn K mainGlobals "degree_of" = some (some (.ref f_degree_of))) (l_degree_of : K.lookup f_degree_of = some ⟨oc_degree_of, od_degree_of, .func (PySem.W.fnOf "degree_of" "degree_of" (defArgs s_degree_of) (defBody s_degree_of) (defScope s_degree_of) .none kV_degree_of dc_degree_of pm_degree_of an_degree_of cd_degree_of ct_degree_of), sl_degree_of⟩) (cc_degree_of : PySem.W.codeIn K cd_degree_of "degree_of" = true) (k_degree_of : PySem.W.keepIn K (.ref f_degree_of) = true)
    {f_divides : Addr} {od_divides an_divides : Option Addr} {sl_divides : Array (Option Value)} {oc_divides kV_divides dc_divides pm_divides cd_divides ct_divides : Value}
    (a_divides : PySem.W.nsIn K mainGlobals "divides" = some (some (.ref f_divides))) (l_divides : K.lookup f_divides = some ⟨oc_divides, od_divides, .func (PySem.W.fnOf "divides" "divides" (defArgs s_divides) (defBody s_divides) (defScope s_divides) .none kV_divides dc_divides pm_divides an_divides cd_divides ct_divides), sl_divides⟩) (cc_divides : PySem.W.codeIn K cd_divides "divides" = true) (k_divides : PySem.W.keepIn K (.ref f_divides) = true)
    {f_least_ones : Addr} {od_least_ones an_least_ones : Option Addr} {sl_least_ones : Array (Option Value)} {oc_least_ones kV_least_ones dc_least_ones pm_least_ones cd_least_ones ct_least_ones : Value}
    (a_least_ones : PySem.W.nsIn K mainGlobals "least_ones" = some (some (.ref f_least_ones))) (l_least_ones : K.lookup f_least_ones = some ⟨oc_least_ones, od_least_ones, .func (PySem.W.fnOf "least_ones" "least_ones" (defArgs s_least_ones) (defBody s_least_ones) (defScope s_least_ones) .none kV_least_ones dc_least_ones pm_least_ones an_least_ones cd_least_ones ct_least_ones), sl_least_ones⟩) (cc_least_ones : PySem.W.codeIn K cd_least_ones "least_ones" = true) (k_least_ones : PySem.W.keepIn K (.ref f_least_ones) = true)
    {f_cut : Addr} {od_cut an_cut : Option Addr} {sl_cut : Array (Option Value)} {oc_cut kV_cut dc_cut pm_cut cd_cut ct_cut : Value}
    (a_cut : PySem.W.nsIn K mainGlobals "cut" = some (some (.ref f_cut))) (l_cut : K.lookup f_cut = some ⟨oc_cut, od_cut, .func (PySem.W.fnOf "cut" "cut" (defArgs s_cut) (defBody s_cut) (defScope s_cut) .none kV_cut dc_cut pm_cut an_cut cd_cut ct_cut), sl_cut⟩) (cc_cut : PySem.W.codeIn K cd_cut "cut" = true) (k_cut : PySem.W.keepIn K (.ref f_cut) = true)
    {f_cut_ahead : Addr} {od_cut_ahead an_cut_ahead : Option Addr} {sl_cut_ahead : Array (Option Value)} {oc_cut_ahead kV_cut_ahead dc_cut_ahead pm_cut_ahead cd_cut_ahead ct_cut_ahead : Value}
    (a_cut_ahead : PySem.W.nsIn K mainGlobals "cut_ahead" = some (some (.ref f_cut_ahead))) (l_cut_ahead : K.lookup f_cut_ahead = some ⟨oc_cut_ahead, od_cut_ahead, .func (PySem.W.fnOf "cut_ahead" "cut_ahead" (defArgs s_cut_ahead) (defBody s_cut_ahead) (defScope s_cut_ahead) .none kV_cut_ahead dc_cut_ahead pm_cut_ahead an_cut_ahead cd_cut_ahead ct_cut_ahead), sl_cut_ahead⟩) (cc_cut_ahead : PySem.W.codeIn K cd_cut_ahead "cut_ahead" = true) (k_cut_ahead : PySem.W.keepIn K (.ref f_cut_ahead) = true)
    {f_follows : Addr} {od_follows an_follows : Option Addr} {sl_follows : Array (Option Value)} {oc_follows kV_follows dc_follows pm_follows cd_follows ct_follows : Value}
    (a_follows : PySem.W.nsIn K mainGlobals "follows" = some (some (.ref f_follows))) (l_follows : K.lookup f_follows = some ⟨oc_follows, od_follows, .func (PySem.W.fnOf "follows" "follows" (defArgs s_follows) (defBody s_follows) (defScope s_follows) .none kV_follows dc_follows pm_follows an_follows cd_follows ct_follows), sl_follows⟩) (cc_follows : PySem.W.codeIn K cd_follows "follows" = true) (k_follows : PySem.W.keepIn K (.ref f_follows) = true)
    {f_quotient_listing : Addr} {od_quotient_listing an_quotient_listing : Option Addr} {sl_quotient_listing : Array (Option Value)} {oc_quotient_listing kV_quotient_listing dc_quotient_listing pm_quotient_listing cd_quotient_listing ct_quotient_listing : Value}
    (a_quotient_listing : PySem.W.nsIn K mainGlobals "quotient_listing" = some (some (.ref f_quotient_listing))) (l_quotient_listing : K.lookup f_quotient_listing = some ⟨oc_quotient_listing, od_quotient_listing, .func (PySem.W.fnOf "quotient_listing" "quotient_listing" (defArgs s_quotient_listing) (defBody s_quotient_listing) (defScope s_quotient_listing) .none kV_quotient_listing dc_quotient_listing pm_quotient_listing an_quotient_listing cd_quotient_listing ct_quotient_listing), sl_quotient_listing⟩) (cc_quotient_listing : PySem.W.codeIn K cd_quotient_listing "quotient_listing" = true) (k_quotient_listing : PySem.W.keepIn K (.ref f_quotient_listing) = true)
    {f_law_of : Addr} {od_law_of an_law_of : Option Addr} {sl_law_of : Array (Option Value)} {oc_law_of kV_law_of dc_law_of pm_law_of cd_law_of ct_law_of : Value}
    (a_law_of : PySem.W.nsIn K mainGlobals "_law_of" = some (some (.ref f_law_of))) (l_law_of : K.lookup f_law_of = some ⟨oc_law_of, od_law_of, .func (PySem.W.fnOf "_law_of" "_law_of" (defArgs s_law_of) (defBody s_law_of) (defScope s_law_of) .none kV_law_of dc_law_of pm_law_of an_law_of cd_law_of ct_law_of), sl_law_of⟩) (cc_law_of : PySem.W.codeIn K cd_law_of "_law_of" = true) (k_law_of : PySem.W.keepIn K (.ref f_law_of) = true)
    {f_law_shuffled : Addr} {od_law_shuffled an_law_shuffled : Option Addr} {sl_law_shuffled : Array (Option Value)} {oc_law_shuffled kV_law_shuffled dc_law_shuffled pm_law_shuffled cd_law_shuffled ct_law_shuffled : Value}
    (a_law_shuffled : PySem.W.nsIn K mainGlobals "_law_shuffled" = some (some (.ref f_law_shuffled))) (l_law_shuffled : K.lookup f_law_shuffled = some ⟨oc_law_shuffled, od_law_shuffled, .func (PySem.W.fnOf "_law_shuffled" "_law_shuffled" (defArgs s_law_shuffled) (defBody s_law_shuffled) (defScope s_law_shuffled) .none kV_law_shuffled dc_law_shuffled pm_law_shuffled an_law_shuffled cd_law_shuffled ct_law_shuffled), sl_law_shuffled⟩) (cc_law_shuffled : PySem.W.codeIn K cd_law_shuffled "_law_shuffled" = true) (k_law_shuffled : PySem.W.keepIn K (.ref f_law_shuffled) = true)
    {f_quotient_breach : Addr} {od_quotient_breach an_quotient_breach : Option Addr} {sl_quotient_breach : Array (Option Value)} {oc_quotient_breach kV_quotient_breach dc_quotient_breach pm_quotient_breach cd_quotient_breach ct_quotient_breach : Value}
    (a_quotient_breach : PySem.W.nsIn K mainGlobals "quotient_breach" = some (some (.ref f_quotient_breach))) (l_quotient_breach : K.lookup f_quotient_breach = some ⟨oc_quotient_breach, od_quotient_breach, .func (PySem.W.fnOf "quotient_breach" "quotient_breach" (defArgs s_quotient_breach) (defBody s_quotient_breach) (defScope s_quotient_breach) .none kV_quotient_breach dc_quotient_breach pm_quotient_breach an_quotient_breach cd_quotient_breach ct_quotient_breach), sl_quotient_breach⟩) (cc_quotient_breach : PySem.W.codeIn K cd_quotient_breach "quotient_breach" = true) (k_quotient_breach : PySem.W.keepIn K (.ref f_quotient_breach) = true)
    {f_law_listings : Addr} {od_law_listings an_law_listings : Option Addr} {sl_law_listings : Array (Option Value)} {oc_law_listings kV_law_listings dc_law_listings pm_law_listings cd_law_listings ct_law_listings : Value}
    (a_law_listings : PySem.W.nsIn K mainGlobals "_law_listings" = some (some (.ref f_law_listings))) (l_law_listings : K.lookup f_law_listings = some ⟨oc_law_listings, od_law_listings, .func (PySem.W.fnOf "_law_listings" "_law_listings" (defArgs s_law_listings) (defBody s_law_listings) (defScope s_law_listings) .none kV_law_listings dc_law_listings pm_law_listings an_law_listings cd_law_listings ct_law_listings), sl_law_listings⟩) (cc_law_listings : PySem.W.codeIn K cd_law_listings "_law_listings" = true) (k_law_listings : PySem.W.keepIn K (.ref f_law_listings) = true)
    {f_law_cut : Addr} {od_law_cut an_law_cut : Option Addr} {sl_law_cut : Array (Option Value)} {oc_law_cut kV_law_cut dc_law_cut pm_law_cut cd_law_cut ct_law_cut : Value}
    (a_law_cut : PySem.W.nsIn K mainGlobals "_law_cut" = some (some (.ref f_law_cut))) (l_law_cut : K.lookup f_law_cut = some ⟨oc_law_cut, od_law_cut, .func (PySem.W.fnOf "_law_cut" "_law_cut" (defArgs s_law_cut) (defBody s_law_cut) (defScope s_law_cut) .none kV_law_cut dc_law_cut pm_law_cut an_law_cut cd_law_cut ct_law_cut), sl_law_cut⟩) (cc_law_cut : PySem.W.codeIn K cd_law_cut "_law_cut" = true) (k_law_cut : PySem.W.keepIn K (.ref f_law_cut) = true)
    {f_law_quotient_place : Addr} {od_law_quotient_place an_law_quotient_place : Option Addr} {sl_law_quotient_place : Array (Option Value)} {oc_law_quotient_place kV_law_quotient_place dc_law_quotient_place pm_law_quotient_place cd_law_quotient_place ct_law_quotient_place : Value}
    (a_law_quotient_place : PySem.W.nsIn K mainGlobals "_law_quotient_place" = some (some (.ref f_law_quotient_place))) (l_law_quotient_place : K.lookup f_law_quotient_place = some ⟨oc_law_quotient_place, od_law_quotient_place, .func (PySem.W.fnOf "_law_quotient_place" "_law_quotient_place" (defArgs s_law_quotient_place) (defBody s_law_quotient_place) (defScope s_law_quotient_place) .none kV_law_quotient_place dc_law_quotient_place pm_law_quotient_place an_law_quotient_place cd_law_quotient_place ct_law_quotient_place), sl_law_quotient_place⟩) (cc_law_quotient_place : PySem.W.codeIn K cd_law_quotient_place "_law_quotient_place" = true) (k_law_quotient_place : PySem.W.keepIn K (.ref f_law_quotient_place) = true)
    {f_law : Addr} {od_law an_law : Option Addr} {sl_law : Array (Option Value)} {oc_law kV_law dc_law pm_law cd_law ct_law : Value}
    (a_law : PySem.W.nsIn K mainGlobals "law" = some (some (.ref f_law))) (l_law : K.lookup f_law = some ⟨oc_law, od_law, .func (PySem.W.fnOf "law" "law" (defArgs s_law) (defBody s_law) (defScope s_law) .none kV_law dc_law pm_law an_law cd_law ct_law), sl_law⟩) (cc_law : PySem.W.codeIn K cd_law "law" = true) (k_law : PySem.W.keepIn K (.ref f_law) = true)
    (z_all : PySem.W.nsIn K mainGlobals "all" = some none)
    (z_any : PySem.W.nsIn K mainGlobals "any" = some none)
    (z_enumerate : PySem.W.nsIn K mainGlobals "enumerate" = some none)
    (z_int : PySem.W.nsIn K mainGlobals "int" = some none)
    (z_len : PySem.W.nsIn K mainGlobals "len" = some none)
    (z_list : PySem.W.nsIn K mainGlobals "list" = some none)
    (z_max : PySem.W.nsIn K mainGlobals "max" = some none)
    (z_range : PySem.W.nsIn K mainGlobals "range" = some none)
    (z_repr : PySem.W.nsIn K mainGlobals "repr" = some none)
    (z_set : PySem.W.nsIn K mainGlobals "set" = some none)
    (z_sorted : PySem.W.nsIn K mainGlobals "sorted" = some none)
    (z_sum : PySem.W.nsIn K mainGlobals "sum" = some none)
    (z_tuple : PySem.W.nsIn K mainGlobals "tuple" = some none)
    (z_zip : PySem.W.nsIn K mainGlobals "zip" = some none)
    {t_MOST_LISTED : Tok} (y_MOST_LISTED : PySem.W.nsIn K mainGlobals "MOST_LISTED" = some (some (.int 7 t_MOST_LISTED)))
    (x_combinations : PySem.W.nsIn K mainGlobals "combinations" = some (some (.type "itertools.combinations"))) :
    ∃ fd : FuncData, (∀ (s : Shared) (v : Value), BindsTo s fd ⟨[v], []⟩ [("script", v)]) ∧ ∀ base : Heap, K.In base → base.Ns mainGlobals mg → L2.FnG l.prog w K mg base 6 fa fd ["script"] (hsp K sp_law) := by
  have e := hfa.symm.trans (PySem.W.mg_of X G a_law)
  cases e
  have T : Tx mg := ⟨PySem.W.mg_none_of X G z_all, PySem.W.mg_none_of X G z_any, PySem.W.mg_none_of X G z_enumerate, PySem.W.mg_none_of X G z_int, PySem.W.mg_none_of X G z_len, PySem.W.mg_none_of X G z_list, PySem.W.mg_none_of X G z_max, PySem.W.mg_none_of X G z_range, PySem.W.mg_none_of X G z_repr, PySem.W.mg_none_of X G z_set, PySem.W.mg_none_of X G z_sorted, PySem.W.mg_none_of X G z_sum, PySem.W.mg_none_of X G z_tuple, PySem.W.mg_none_of X G z_zip, ⟨_, PySem.W.mg_of X G y_MOST_LISTED⟩, PySem.W.mg_of X G x_combinations⟩
  refine ⟨PySem.W.fnOf "law" "law" (defArgs s_law) (defBody s_law) (defScope s_law) .none kV_law dc_law pm_law an_law cd_law ct_law, fun s v => .of_eq rfl, fun base _ _ => ?_⟩
  have C_law_begun : Cl l.prog w K mg base "_law_begun" 1 sp_law_begun := o_law_begun T  (fun_mk (st := s_law_begun) l_law_begun cc_law_begun k_law_begun) (PySem.W.mg_of X G a_law_begun) len_law_begun sem_law_begun
  have C_law_divides : Cl l.prog w K mg base "_law_divides" 1 sp_law_divides := o_law_divides T  (fun_mk (st := s_law_divides) l_law_divides cc_law_divides k_law_divides) (PySem.W.mg_of X G a_law_divides) len_law_divides sem_law_divides
  have C_law_least : Cl l.prog w K mg base "_law_least" 2 sp_law_least := o_law_least T C_law_divides (fun_mk (st := s_law_least) l_law_least cc_law_least k_law_least) (PySem.W.mg_of X G a_law_least) len_law_least sem_law_least
  have C_law_moved : Cl l.prog w K mg base "_law_moved" 1 sp_law_moved := o_law_moved T  (fun_mk (st := s_law_moved) l_law_moved cc_law_moved k_law_moved) (PySem.W.mg_of X G a_law_moved) len_law_moved sem_law_moved
  have C_law_hull : Cl l.prog w K mg base "_law_hull" 3 sp_law_hull := o_law_hull T C_law_moved C_law_least (fun_mk (st := s_law_hull) l_law_hull cc_law_hull k_law_hull) (PySem.W.mg_of X G a_law_hull) len_law_hull sem_law_hull
  have C_law_draw : Cl l.prog w K mg base "_law_draw" 1 sp_law_draw := o_law_draw T  (fun_mk (st := s_law_draw) l_law_draw cc_law_draw k_law_draw) (PySem.W.mg_of X G a_law_draw) len_law_draw sem_law_draw
  have C_law_monomial : Cl l.prog w K mg base "_law_monomial" 2 sp_law_monomial := o_law_monomial T C_law_draw (fun_mk (st := s_law_monomial) l_law_monomial cc_law_monomial k_law_monomial) (PySem.W.mg_of X G a_law_monomial) len_law_monomial sem_law_monomial
  have C_law_ideal : Cl l.prog w K mg base "_law_ideal" 3 sp_law_ideal := o_law_ideal T C_law_draw C_law_monomial C_law_least (fun_mk (st := s_law_ideal) l_law_ideal cc_law_ideal k_law_ideal) (PySem.W.mg_of X G a_law_ideal) len_law_ideal sem_law_ideal
  have C_law_some_ideal : Cl l.prog w K mg base "_law_some_ideal" 4 sp_law_some_ideal := o_law_some_ideal T C_law_draw C_law_ideal C_law_monomial C_law_hull (fun_mk (st := s_law_some_ideal) l_law_some_ideal cc_law_some_ideal k_law_some_ideal) (PySem.W.mg_of X G a_law_some_ideal) len_law_some_ideal sem_law_some_ideal
  have C_lots_of : Cl l.prog w K mg base "lots_of" 1 sp_lots_of := o_lots_of T  (fun_mk (st := s_lots_of) l_lots_of cc_lots_of k_lots_of) (PySem.W.mg_of X G a_lots_of) len_lots_of sem_lots_of
  have C_least_listing : Cl l.prog w K mg base "least_listing" 2 sp_least_listing := o_least_listing T C_lots_of (fun_mk (st := s_least_listing) l_least_listing cc_least_listing k_least_listing) (PySem.W.mg_of X G a_least_listing) len_least_listing sem_least_listing
  have C_degree_of : Cl l.prog w K mg base "degree_of" 1 sp_degree_of := o_degree_of T  (fun_mk (st := s_degree_of) l_degree_of cc_degree_of k_degree_of) (PySem.W.mg_of X G a_degree_of) len_degree_of sem_degree_of
  have C_divides : Cl l.prog w K mg base "divides" 1 sp_divides := o_divides T  (fun_mk (st := s_divides) l_divides cc_divides k_divides) (PySem.W.mg_of X G a_divides) len_divides sem_divides
  have C_least_ones : Cl l.prog w K mg base "least_ones" 2 sp_least_ones := o_least_ones T C_divides (fun_mk (st := s_least_ones) l_least_ones cc_least_ones k_least_ones) (PySem.W.mg_of X G a_least_ones) len_least_ones sem_least_ones
  have C_cut : Cl l.prog w K mg base "cut" 1 sp_cut := o_cut T  (fun_mk (st := s_cut) l_cut cc_cut k_cut) (PySem.W.mg_of X G a_cut) len_cut sem_cut
  have C_cut_ahead : Cl l.prog w K mg base "cut_ahead" 3 sp_cut_ahead := o_cut_ahead T C_cut C_least_ones (fun_mk (st := s_cut_ahead) l_cut_ahead cc_cut_ahead k_cut_ahead) (PySem.W.mg_of X G a_cut_ahead) len_cut_ahead sem_cut_ahead
  have C_follows : Cl l.prog w K mg base "follows" 4 sp_follows := o_follows T C_degree_of C_cut_ahead (fun_mk (st := s_follows) l_follows cc_follows k_follows) (PySem.W.mg_of X G a_follows) len_follows sem_follows
  have C_quotient_listing : Cl l.prog w K mg base "quotient_listing" 5 sp_quotient_listing := o_quotient_listing T C_lots_of C_follows C_least_listing (fun_mk (st := s_quotient_listing) l_quotient_listing cc_quotient_listing k_quotient_listing) (PySem.W.mg_of X G a_quotient_listing) len_quotient_listing sem_quotient_listing
  have C_law_of : Cl l.prog w K mg base "_law_of" 2 sp_law_of := o_law_of T C_law_draw (fun_mk (st := s_law_of) l_law_of cc_law_of k_law_of) (PySem.W.mg_of X G a_law_of) len_law_of sem_law_of
  have C_law_shuffled : Cl l.prog w K mg base "_law_shuffled" 3 sp_law_shuffled := o_law_shuffled T C_law_of (fun_mk (st := s_law_shuffled) l_law_shuffled cc_law_shuffled k_law_shuffled) (PySem.W.mg_of X G a_law_shuffled) len_law_shuffled sem_law_shuffled
  have C_quotient_breach : Cl l.prog w K mg base "quotient_breach" 5 sp_quotient_breach := o_quotient_breach T C_follows (fun_mk (st := s_quotient_breach) l_quotient_breach cc_quotient_breach k_quotient_breach) (PySem.W.mg_of X G a_quotient_breach) len_quotient_breach sem_quotient_breach
  have C_law_listings : Cl l.prog w K mg base "_law_listings" 1 sp_law_listings := o_law_listings T  (fun_mk (st := s_law_listings) l_law_listings cc_law_listings k_law_listings) (PySem.W.mg_of X G a_law_listings) len_law_listings sem_law_listings
  have C_law_cut : Cl l.prog w K mg base "_law_cut" 1 sp_law_cut := o_law_cut T  (fun_mk (st := s_law_cut) l_law_cut cc_law_cut k_law_cut) (PySem.W.mg_of X G a_law_cut) len_law_cut sem_law_cut
  have C_law_quotient_place : Cl l.prog w K mg base "_law_quotient_place" 3 sp_law_quotient_place := o_law_quotient_place T C_law_cut C_law_least (fun_mk (st := s_law_quotient_place) l_law_quotient_place cc_law_quotient_place k_law_quotient_place) (PySem.W.mg_of X G a_law_quotient_place) len_law_quotient_place sem_law_quotient_place
  exact fnG_ok (fun_mk (st := s_law) l_law cc_law k_law) S_law len_law (d_law T C_law_begun C_law_some_ideal C_law_shuffled C_quotient_breach C_law_quotient_place C_law_listings C_quotient_listing) sem_law
theorem walk {l : PySem.W.OpenLaw} {q : Program} {loose : List Str} {XP : (Str → Option Value) → Heap → Prop} {YP : World → Heap → Prop} {d : DefRec} {K : Params → PySem.W.Frag} (hn : l.most = some 63) (hdf : d.params.defaults = [])
    (hY : ∀ (w : World) (h : Heap), YP w h → (K w.params).In h)
    (F : ∀ (w : World) (mg : Str → Option Value) (fa : Addr) (h : Heap), (K w.params).In h → h.Ns mainGlobals mg → mg d.name = some (.ref fa) →
      ∃ fd : FuncData, (∀ (s : Shared) (u : Value), BindsTo s fd ⟨[u], []⟩ [("script", u)]) ∧ ∀ base : Heap, (K w.params).In base → base.Ns mainGlobals mg → L2.FnG l.prog w (K w.params) mg base 6 fa fd ["script"] (hsp (K w.params) sp_law)) :
    PySem.W.WalkO q loose XP YP l.row.toRowW d [] (fun f vs => PySem.call f vs) :=
  L2.walk_ofG (n := 63) (k := 6) (x := "script") (sp := fun w => hsp (K w.params) sp_law) hn (by decide) hdf ⟨rfl, by decide, by decide⟩ hY F (fun w H a ns hl hb hS => law_start U.law_true hl hb hS)
end GD
open PySem PySem.W PyProof.Rows in
set_option maxRecDepth 100000 in
set_option maxHeartbeats 0 in
theorem PySem.Challenge.cw_jointneeds_k80_quotient_listings_holds : PySem.Challenge.rw_jointneeds_k80_quotient_listings.Holds := by
  refine head_k80 ?_
  k_fill
  refine GD.walk (l := PySem.Challenge.rw_jointneeds_k80_quotient_listings) rfl rfl (fun w h Y => PySem.W.kIn_of Y) ?F
  case F =>
    intro w mg fa h KX G hmg
    refine' GD.all_mk KX G hmg ?a_law_begun ?l_law_begun ?cc_law_begun ?k_law_begun ?a_law_divides ?l_law_divides ?cc_law_divides ?k_law_divides ?a_law_least ?l_law_least ?cc_law_least ?k_law_least ?a_law_moved ?l_law_moved ?cc_law_moved ?k_law_moved ?a_law_hull ?l_law_hull ?cc_law_hull ?k_law_hull ?a_law_draw ?l_law_draw ?cc_law_draw ?k_law_draw ?a_law_monomial ?l_law_monomial ?cc_law_monomial ?k_law_monomial ?a_law_ideal ?l_law_ideal ?cc_law_ideal ?k_law_ideal ?a_law_some_ideal ?l_law_some_ideal ?cc_law_some_ideal ?k_law_some_ideal ?a_lots_of ?l_lots_of ?cc_lots_of ?k_lots_of ?a_least_listing ?l_least_listing ?cc_least_listing ?k_least_listing ?a_degree_of ?l_degree_of ?cc_degree_of ?k_degree_of ?a_divides ?l_divides ?cc_divides ?k_divides ?a_least_ones ?l_least_ones ?cc_least_ones ?k_least_ones ?a_cut ?l_cut ?cc_cut ?k_cut ?a_cut_ahead ?l_cut_ahead ?cc_cut_ahead ?k_cut_ahead ?a_follows ?l_follows ?cc_follows ?k_follows ?a_quotient_listing ?l_quotient_listing ?cc_quotient_listing ?k_quotient_listing ?a_law_of ?l_law_of ?cc_law_of ?k_law_of ?a_law_shuffled ?l_law_shuffled ?cc_law_shuffled ?k_law_shuffled ?a_quotient_breach ?l_quotient_breach ?cc_quotient_breach ?k_quotient_breach ?a_law_listings ?l_law_listings ?cc_law_listings ?k_law_listings ?a_law_cut ?l_law_cut ?cc_law_cut ?k_law_cut ?a_law_quotient_place ?l_law_quotient_place ?cc_law_quotient_place ?k_law_quotient_place ?a_law ?l_law ?cc_law ?k_law ?z_all ?z_any ?z_enumerate ?z_int ?z_len ?z_list ?z_max ?z_range ?z_repr ?z_set ?z_sorted ?z_sum ?z_tuple ?z_zip ?y_MOST_LISTED ?x_combinations
    (case a_law_begun => k_is)
    (case l_law_begun => k_is)
    (case cc_law_begun => k_is)
    (case k_law_begun => k_is)
    (case a_law_divides => k_is)
    (case l_law_divides => k_is)
    (case cc_law_divides => k_is)
    (case k_law_divides => k_is)
    (case a_law_least => k_is)
    (case l_law_least => k_is)
    (case cc_law_least => k_is)
    (case k_law_least => k_is)
    (case a_law_moved => k_is)
    (case l_law_moved => k_is)
    (case cc_law_moved => k_is)
    (case k_law_moved => k_is)
    (case a_law_hull => k_is)
    (case l_law_hull => k_is)
    (case cc_law_hull => k_is)
    (case k_law_hull => k_is)
    (case a_law_draw => k_is)
    (case l_law_draw => k_is)
    (case cc_law_draw => k_is)
    (case k_law_draw => k_is)
    (case a_law_monomial => k_is)
    (case l_law_monomial => k_is)
    (case cc_law_monomial => k_is)
    (case k_law_monomial => k_is)
    (case a_law_ideal => k_is)
    (case l_law_ideal => k_is)
    (case cc_law_ideal => k_is)
    (case k_law_ideal => k_is)
    (case a_law_some_ideal => k_is)
    (case l_law_some_ideal => k_is)
    (case cc_law_some_ideal => k_is)
    (case k_law_some_ideal => k_is)
    (case a_lots_of => k_is)
    (case l_lots_of => k_is)
    (case cc_lots_of => k_is)
    (case k_lots_of => k_is)
    (case a_least_listing => k_is)
    (case l_least_listing => k_is)
    (case cc_least_listing => k_is)
    (case k_least_listing => k_is)
    (case a_degree_of => k_is)
    (case l_degree_of => k_is)
    (case cc_degree_of => k_is)
    (case k_degree_of => k_is)
    (case a_divides => k_is)
    (case l_divides => k_is)
    (case cc_divides => k_is)
    (case k_divides => k_is)
    (case a_least_ones => k_is)
    (case l_least_ones => k_is)
    (case cc_least_ones => k_is)
    (case k_least_ones => k_is)
    (case a_cut => k_is)
    (case l_cut => k_is)
    (case cc_cut => k_is)
    (case k_cut => k_is)
    (case a_cut_ahead => k_is)
    (case l_cut_ahead => k_is)
    (case cc_cut_ahead => k_is)
    (case k_cut_ahead => k_is)
    (case a_follows => k_is)
    (case l_follows => k_is)
    (case cc_follows => k_is)
    (case k_follows => k_is)
    (case a_quotient_listing => k_is)
    (case l_quotient_listing => k_is)
    (case cc_quotient_listing => k_is)
    (case k_quotient_listing => k_is)
    (case a_law_of => k_is)
    (case l_law_of => k_is)
    (case cc_law_of => k_is)
    (case k_law_of => k_is)
    (case a_law_shuffled => k_is)
    (case l_law_shuffled => k_is)
    (case cc_law_shuffled => k_is)
    (case k_law_shuffled => k_is)
    (case a_quotient_breach => k_is)
    (case l_quotient_breach => k_is)
    (case cc_quotient_breach => k_is)
    (case k_quotient_breach => k_is)
    (case a_law_listings => k_is)
    (case l_law_listings => k_is)
    (case cc_law_listings => k_is)
    (case k_law_listings => k_is)
    (case a_law_cut => k_is)
    (case l_law_cut => k_is)
    (case cc_law_cut => k_is)
    (case k_law_cut => k_is)
    (case a_law_quotient_place => k_is)
    (case l_law_quotient_place => k_is)
    (case cc_law_quotient_place => k_is)
    (case k_law_quotient_place => k_is)
    (case a_law => k_is)
    (case l_law => k_is)
    (case cc_law => k_is)
    (case k_law => k_is)
    (case z_all => k_is)
    (case z_any => k_is)
    (case z_enumerate => k_is)
    (case z_int => k_is)
    (case z_len => k_is)
    (case z_list => k_is)
    (case z_max => k_is)
    (case z_range => k_is)
    (case z_repr => k_is)
    (case z_set => k_is)
    (case z_sorted => k_is)
    (case z_sum => k_is)
    (case z_tuple => k_is)
    (case z_zip => k_is)
    (case y_MOST_LISTED => k_is)
    (case x_combinations => k_is)
end
