import PyProof.Rows.All
import Wide.All
import OpenK.AllK
import Wide.FinOn
import HandS.ForMost
import HandS.Wide
import HandS.TupMul
import HandS.IsInst
import HandS.Deep
import HandS.Flow
import HandS.Style
import HandS.Lambda
import HandS.TupAny
import HandS.Zip
import KE.GoesMore
import KE.KTupSum
import HandS.TupSets
import KE.DatumOrd
import HandS.Gcd
import KE.KMathGC
import HandS.Conv
import HandS.Strs
import KE.SortData
import KE.LtData
import KE.LtSeq
import PyProof.P3In
import PyProof.Rows.TupDisplay
import HandS.DictTup
import HandS.Iter
import HandS.SortKw
import PyProof.Rows.NestShow
import HandS.SetFor
import HandS.Set
import PyProof.ZipIter
import PyProof.CallType
import PyProof.Walk
import PyProof.WalkLemmas
import PyProof.RangeIter
import PyProof.RulesTry
import HandS.RepeatKit
import HandS.GenList
import HandS.ExcValue
import HandS.ExcOwn
import KE.KRevSl
import HandS.Base
import HandS.Call
import HandS.List
import KE.KSuper
import KE.KExcSuper
import HandS.Exc
import HandS.ExcInit
import HandS.Words
import HandS.WordsExc
import KE.KExcIs
import HandS.ExcField
import HandS.ExcIs
import HandS.EndTab
import PyProof.Rows.RegRepr
import HandS.TupLe
import PySem.Challenge.RW_jointneeds_k31_ideals_and_complexes
section
set_option Elab.async false
set_option linter.all false
set_option pp.maxSteps 200
set_option maxRecDepth 100000
set_option maxHeartbeats 0
open PySem PySem.W PyProof.Rows
open_top head_k31 for PySem.Challenge.rw_jointneeds_k31_ideals_and_complexes
end
section
set_option Elab.async false
set_option linter.all false
set_option maxRecDepth 100000
set_option maxHeartbeats 2000000
namespace DL
open PySem L2 PyProof.Rows
inductive DV where
  | d (x : PyData)
  | r (a : Addr)
  | t (xs : List DV)
inductive MO where
  | lst (xs : List DV)
  | dK (kvs : List (Key × DV))
  | dT (kvs : List (List Key × DV))
  | ins (C : Addr) (fs : List (Str × DV))
  | lk (o : Obj) (ws : List (List Key × V)) (kvs : List (List Key × DV))
  | xd (fs : List (Str × DV))
abbrev Sto := Addr → Option MO
abbrev Env := List (Option DV)
def up (s : Sto) (a : Addr) (m : MO) : Sto := fun b => if b = a then some m else s b
theorem up_same {s : Sto} {a : Addr} {m : MO} : up s a m a = some m := if_pos rfl
theorem up_ne {s : Sto} {a b : Addr} {m : MO} (h : b ≠ a) : up s a m b = s b := if_neg h
/-- no table of code objects -/
abbrev NoTb (o : HO) : Prop := ∀ ps, o ≠ .tbl ps
theorem tb_or (o : HO) : (∃ ps, o = .tbl ps) ∨ NoTb o := by
  by_cases h : ∃ ps, o = .tbl ps
  · exact .inl h
  · exact .inr fun ps e => h ⟨ps, e⟩
structure Step (F H : Hp) (st : Sto) (F' H' : Hp) (st' : Sto) : Prop where
  ex : ∀ a o, F a = some o → F' a = some o
  pres : ∀ a o, H a = some o → NoTb o → st a = none → H' a = some o ∧ st' a = none
  fnew : ∀ a o, F' a = some o → F a ≠ none ∨ H a = none ∨ st a ≠ none ∨ (∃ ts, H a = some (.tup ts)) ∨ ∃ ps, H a = some (.tbl ps)
theorem Step.of {F H F' H' : Hp} {st st' : Sto} (ex : ∀ a o, F a = some o → F' a = some o) (pres : ∀ a o, H a = some o → st a = none → H' a = some o ∧ st' a = none) (fnew : ∀ a o, F' a = some o → F a ≠ none ∨ H a = none ∨ st a ≠ none ∨ ∃ ts, H a = some (.tup ts)) : Step F H st F' H' st' :=
  ⟨ex, fun a o h _ k => pres a o h k, fun a o h => by
    rcases fnew a o h with z | z | z | z
    · exact .inl z
    · exact .inr (.inl z)
    · exact .inr (.inr (.inl z))
    · exact .inr (.inr (.inr (.inl z)))⟩
theorem Step.refl (F H : Hp) (st : Sto) : Step F H st F H st := Step.of (fun _ _ h => h) (fun _ _ h k => ⟨h, k⟩) (fun a o h => .inl (by rw [h]; exact fun q => nomatch q))
theorem Step.trans {F H : Hp} {st : Sto} {F1 H1 : Hp} {st1 : Sto} {F2 H2 : Hp} {st2 : Sto} (a : Step F H st F1 H1 st1) (b : Step F1 H1 st1 F2 H2 st2) : Step F H st F2 H2 st2 where
  ex := fun x o h => b.ex x o (a.ex x o h)
  pres := fun x o h n k => let ⟨h1, k1⟩ := a.pres x o h n k; b.pres x o h1 n k1
  fnew := fun x o h => by
    cases e : H x with
    | none => exact .inr (.inl rfl)
    | some u =>
      rcases tb_or u with ⟨ps, rfl⟩ | nt
      · exact .inr (.inr (.inr (.inr ⟨ps, rfl⟩)))
      cases e2 : st x with
      | some m => exact .inr (.inr (.inl fun z => nomatch z))
      | none =>
        obtain ⟨h1, k1⟩ := a.pres x u e nt e2
        rcases b.fnew x o h with q | q | q | ⟨ts, q⟩ | ⟨ps, q⟩
        · cases e1 : F1 x with
          | none => exact absurd e1 q
          | some u1 =>
            rcases a.fnew x u1 e1 with z | z | z | ⟨ts, z⟩ | ⟨ps, z⟩
            · exact .inl z
            · rw [e] at z; cases z
            · exact absurd e2 z
            · rw [e] at z; cases z; exact .inr (.inr (.inr (.inl ⟨ts, rfl⟩)))
            · rw [e] at z; cases z; exact absurd rfl (nt ps)
        · rw [q] at h1; cases h1
        · exact absurd k1 q
        · rw [q] at h1; cases h1; exact .inr (.inr (.inr (.inl ⟨ts, rfl⟩)))
        · rw [q] at h1; cases h1; exact absurd rfl (nt ps)
/-- what is known of the states of a run, kept by all that follows -/
class Gr where
  gr : Hp → Hp → Sto → Prop
  cl : ∀ {F H : Hp} {st : Sto} {F' H' : Hp} {st' : Sto}, gr F H st → Step F H st F' H' st' → gr F' H' st'
instance (priority := low) Gr.tr : Gr := ⟨fun _ _ _ => True, fun _ _ => True.intro⟩
/-- the tables of code objects in which lambdas are made: each with the name of all that it tells -/
class Tb where
  T : List (Addr × Str)
instance (priority := low) Tb.nil : Tb := ⟨[]⟩
/-- the table at P is known, it tells only code objects of the name q -/
def TabT (F H : Hp) (st : Sto) (P : Addr) (q : Str) : Prop := F P = none ∧ st P = none ∧ ∃ ps : Array Value, H P = some (.tbl ps) ∧ TriplesOk ps.toList ∧ ∀ (pos : Pos) (cv : Value), codeAmong pos ps.toList = some cv → ∃ c, cv = .ref c ∧ H c = some (LamX.CodeO c q) ∧ st c = none
theorem TabT.keep {F H F' H' : Hp} {st st' : Sto} {P : Addr} {q : Str} (t : TabT F H st P q) (e : ∀ a o, H a = some o → st a = none → H' a = some o ∧ st' a = none) (n : ∀ a o, F' a = some o → F a ≠ none ∨ H a = none ∨ st a ≠ none ∨ ∃ ts, H a = some (.tup ts)) : TabT F' H' st' P q := by
  obtain ⟨hF, h0, ps, h1, h2, h3⟩ := t
  refine ⟨?_, (e _ _ h1 h0).2, ps, (e _ _ h1 h0).1, h2, fun pos cv hc => ?_⟩
  · cases e2 : F' P with
    | none => rfl
    | some o =>
      rcases n P o e2 with z | z | z | ⟨ts, z⟩
      · exact absurd hF z
      · rw [h1] at z; cases z
      · exact absurd h0 z
      · rw [h1] at z; cases z
  · obtain ⟨c, e1, e2, e3⟩ := h3 pos cv hc
    exact ⟨c, e1, e _ _ e2 e3⟩
abbrev TabA [tB : Tb] (F H : Hp) (st : Sto) : Prop := ∀ p ∈ tB.T, TabT F H st p.1 p.2
theorem TabA.keep [tB : Tb] {F H F' H' : Hp} {st st' : Sto} (t : TabA F H st) (e : ∀ a o, H a = some o → st a = none → H' a = some o ∧ st' a = none) (n : ∀ a o, F' a = some o → F a ≠ none ∨ H a = none ∨ st a ≠ none ∨ ∃ ts, H a = some (.tup ts)) : TabA F' H' st' := fun p hp => (t p hp).keep e n
theorem old_F {F H : Hp} {st : Sto} : ∀ a o, F a = some o → F a ≠ none ∨ H a = none ∨ st a ≠ none ∨ ∃ ts, H a = some (.tup ts) := fun a o h => .inl (by rw [h]; exact fun z => (nomatch z))
def plainB : HO → Bool
  | .tbl _ => false
  | .ext _ => false
  | _ => true
theorem plain_co {o : HO} (h : plainB o = true) (c : Addr) (q : Str) : o ≠ LamX.CodeO c q := fun z => by
  rw [z] at h
  unfold LamX.CodeO at h
  cases h
theorem TabA.up [tB : Tb] {F H : Hp} {st : Sto} (t : TabA F H st) {p : Addr} {o : HO} {m : MO} (hp : H p = some o) (h : plainB o = true := by rfl) : TabA F H (up st p m) := fun P hP => by
  obtain ⟨hF, h0, ps, h1, h2, h3⟩ := t P hP
  refine ⟨hF, ?_, ps, h1, h2, fun pos cv hc => ?_⟩
  · rw [up_ne (fun z => by rw [z, hp] at h1; cases h1; cases h)]
    exact h0
  · obtain ⟨c, e1, e2, e3⟩ := h3 pos cv hc
    refine ⟨c, e1, e2, ?_⟩
    rw [up_ne (fun z => by rw [z, hp] at e2; exact plain_co h _ _ (Option.some.inj e2))]
    exact e3
theorem TabA.see [tB : Tb] {F H : Hp} {st : Sto} (t : TabA F H st) {p : Addr} {o o' : HO} (hp : H p = some o) (h : plainB o = true := by rfl) : TabA (upd F p o') H st := fun P hP => by
  obtain ⟨hF, h0, ps, h1, h2, h3⟩ := t P hP
  refine ⟨?_, h0, ps, h1, h2, h3⟩
  rw [upd_ne (fun z => by rw [z, hp] at h1; cases h1; cases h)]
  exact hF
theorem TabA.none [tB : Tb] {F H : Hp} {st : Sto} (t : TabA F H st) {a : Addr} (h : H a = none) : ∀ p ∈ tB.T, p.1 ≠ a := fun p hp z => by
  obtain ⟨_, _, ps, h1, _⟩ := t p hp
  rw [z, h] at h1
  cases h1
variable [tB : Tb] [gR : Gr]
section
variable (K : PySem.W.Frag)
mutual
inductive Rp (F : Hp) : V → PyData → Prop
  | non : Rp F .non .none
  | bl (b : Bool) : Rp F (.bl b) (.bool b)
  | int (i : Int) : Rp F (.int i) (.int i)
  | str (x : Str) : Rp F (.str x) (.str x)
  | lst {a : Addr} {xs : List V} {ds : List PyData} : SqL K F a xs → RpAll F xs ds → Rp F (.ref a) (.list ds)
  | tup {a : Addr} {xs : List V} {ds : List PyData} : F a = some (.tup xs) → RpAll F xs ds → Rp F (.ref a) (.tuple ds)
inductive RpAll (F : Hp) : List V → List PyData → Prop
  | nil : RpAll F [] []
  | cons {v : V} {vs : List V} {d : PyData} {ds : List PyData} : Rp F v d → RpAll F vs ds → RpAll F (v :: vs) (d :: ds)
end
mutual
inductive RV (F : Hp) : V → DV → Prop
  | d {v : V} {x : PyData} : Rp K F v x → RV F v (.d x)
  | r (a : Addr) : RV F (.ref a) (.r a)
  | t {a : Addr} {vs : List V} {xs : List DV} : F a = some (.tup vs) → RVs F vs xs → RV F (.ref a) (.t xs)
inductive RVs (F : Hp) : List V → List DV → Prop
  | nil : RVs F [] []
  | cons {v : V} {vs : List V} {x : DV} {xs : List DV} : RV F v x → RVs F vs xs → RVs F (v :: vs) (x :: xs)
end
def MOk (F H : Hp) (a : Addr) : MO → Prop
  | .lst xs => ∃ vs, H a = some (.lst vs) ∧ RVs K F vs xs
  | .dK kvs => ∃ ws, H a = some (.dK ws) ∧ Paired (fun p q => p.1 = q.1 ∧ RV K F p.2 q.2) ws kvs
  | .dT kvs => ∃ ws, H a = some (.dT ws) ∧ Paired (fun p q => p.1 = q.1 ∧ RV K F p.2 q.2) ws kvs
  | .ins C fs => ∃ dx ws, H a = some (.ins C dx ws) ∧ Paired (fun p q => p.1 = q.1 ∧ RV K F p.2 q.2) ws fs
  | .lk o ws kvs => H a = some (.frz o (.dT ws)) ∧ Paired (fun p q => p.1 = q.1 ∧ RV K F p.2 q.2) ws kvs
  | .xd fs => ∃ ws, H a = some (.xd ws) ∧ Paired (fun p q => p.1 = q.1 ∧ RV K F p.2 q.2) ws fs
structure Rs0 (F H : Hp) (st : Sto) : Prop where
  sub : ∀ a o, F a = some o → H a = some o ∧ st a = none
  ok : ∀ a m, st a = some m → MOk K F H a m
  tb : TabA F H st
structure Rs (F H : Hp) (st : Sto) : Prop extends Rs0 K F H st where
  gr : gR.gr F H st
def RE (F : Hp) (σ : L2.St) (ε : Env) : Prop := σ.length = ε.length ∧ ∀ (i : Nat) (x : DV), ε[i]? = some (some x) → ∃ v, σ[i]? = some (some v) ∧ RV K F v x
end
section
variable {K : PySem.W.Frag} {F F' H H' : Hp} {st st' : Sto} {σ : L2.St} {ε : Env}
theorem Rd.mono {a : Addr} {u : HO} (e : ∀ a o, F a = some o → F' a = some o) (h : Rd F a u) : Rd F' a u := by
  rcases h with h | ⟨o, h⟩
  · exact .inl (e _ _ h)
  · exact .inr ⟨o, e _ _ h⟩
theorem SqL.mono {a : Addr} {xs : List V} (e : ∀ a o, F a = some o → F' a = some o) (h : SqL K F a xs) : SqL K F' a xs := by
  rcases h with h | h
  · exact .inl (Rd.mono e h)
  · exact .inr h
theorem SqT.mono {a : Addr} {xs : List V} (e : ∀ a o, F a = some o → F' a = some o) (h : SqT K F a xs) : SqT K F' a xs := by
  rcases h with h | h
  · exact .inl (Rd.mono e h)
  · exact .inr h
mutual
theorem Rp.mono (e : ∀ a o, F a = some o → F' a = some o) : ∀ {v : V} {d : PyData}, Rp K F v d → Rp K F' v d
  | _, _, .non => .non
  | _, _, .bl b => .bl b
  | _, _, .int i => .int i
  | _, _, .str x => .str x
  | _, _, .lst h q => .lst (SqL.mono e h) (RpAll.mono e q)
  | _, _, .tup h q => .tup (e _ _ h) (RpAll.mono e q)
theorem RpAll.mono (e : ∀ a o, F a = some o → F' a = some o) : ∀ {vs : List V} {ds : List PyData}, RpAll K F vs ds → RpAll K F' vs ds
  | _, _, .nil => .nil
  | _, _, .cons h q => .cons (Rp.mono e h) (RpAll.mono e q)
end
mutual
theorem Rp.dp (e : ∀ a o, F a = some o → H a = some o) : ∀ {v : V} {d : PyData}, Rp K F v d → Dp K H v d
  | _, _, .non => .non
  | _, _, .bl b => .bl b
  | _, _, .int i => .int i
  | _, _, .str x => .str x
  | _, _, .lst h q => .lst (SqL.mono e h) (RpAll.dp e q)
  | _, _, .tup h q => .tup (SqT.of (e _ _ h)) (RpAll.dp e q)
theorem RpAll.dp (e : ∀ a o, F a = some o → H a = some o) : ∀ {vs : List V} {ds : List PyData}, RpAll K F vs ds → DpAll K H vs ds
  | _, _, .nil => .nil
  | _, _, .cons h q => .cons (Rp.dp e h) (RpAll.dp e q)
end
mutual
theorem RV.mono (e : ∀ a o, F a = some o → F' a = some o) : ∀ {v : V} {x : DV}, RV K F v x → RV K F' v x
  | _, _, .d h => .d (Rp.mono e h)
  | _, _, .r a => .r a
  | _, _, .t h q => .t (e _ _ h) (RVs.mono e q)
theorem RVs.mono (e : ∀ a o, F a = some o → F' a = some o) : ∀ {vs : List V} {xs : List DV}, RVs K F vs xs → RVs K F' vs xs
  | _, _, .nil => .nil
  | _, _, .cons h q => .cons (RV.mono e h) (RVs.mono e q)
end
theorem RVs.length : ∀ {vs : List V} {xs : List DV}, RVs K F vs xs → vs.length = xs.length
  | _, _, .nil => rfl
  | _, _, .cons _ q => congrArg (· + 1) (RVs.length q)
theorem RVs.append : ∀ {vs ws : List V} {xs ys : List DV}, RVs K F vs xs → RVs K F ws ys → RVs K F (vs ++ ws) (xs ++ ys)
  | _, _, _, _, .nil, h => h
  | _, _, _, _, .cons h q, k => .cons h (RVs.append q k)
theorem RVs.get : ∀ {vs : List V} {xs : List DV} {i : Nat} {v : V}, RVs K F vs xs → vs[i]? = some v → ∃ x, xs[i]? = some x ∧ RV K F v x
  | _, _, _, _, .nil, e => by simp at e
  | _, _, 0, _, .cons r _, e => by simp at e; subst e; exact ⟨_, rfl, r⟩
  | _, _, i + 1, v, .cons _ t, e => by
    obtain ⟨u, h1, h2⟩ := RVs.get (i := i) (v := v) t (by simpa using e)
    exact ⟨u, by simpa using h1, h2⟩
theorem RVs.get' : ∀ {vs : List V} {xs : List DV} {i : Nat} {x : DV}, RVs K F vs xs → xs[i]? = some x → ∃ v, vs[i]? = some v ∧ RV K F v x
  | _, _, _, _, .nil, e => by simp at e
  | _, _, 0, _, .cons r _, e => by simp at e; subst e; exact ⟨_, rfl, r⟩
  | _, _, i + 1, x, .cons _ t, e => by
    obtain ⟨u, h1, h2⟩ := RVs.get' (i := i) (x := x) t (by simpa using e)
    exact ⟨u, by simpa using h1, h2⟩
theorem RVs.take : ∀ {vs : List V} {xs : List DV} (n : Nat), RVs K F vs xs → RVs K F (vs.take n) (xs.take n)
  | _, _, 0, _ => .nil
  | _, _, _ + 1, .nil => .nil
  | _, _, n + 1, .cons r t => .cons r (RVs.take n t)
theorem RVs.drop : ∀ {vs : List V} {xs : List DV} (n : Nat), RVs K F vs xs → RVs K F (vs.drop n) (xs.drop n)
  | _, _, 0, r => r
  | _, _, _ + 1, .nil => .nil
  | _, _, n + 1, .cons _ t => RVs.drop n t
theorem RVs.set {v : V} {x : DV} (r : RV K F v x) : ∀ {vs : List V} {xs : List DV} (i : Nat), RVs K F vs xs → RVs K F (vs.set i v) (xs.set i x)
  | _, _, _, .nil => .nil
  | _, _, 0, .cons _ t => .cons r t
  | _, _, i + 1, .cons q t => .cons q (RVs.set r i t)
theorem RpAll.rvs : ∀ {vs : List V} {ds : List PyData}, RpAll K F vs ds → RVs K F vs (ds.map .d)
  | _, _, .nil => .nil
  | _, _, .cons h q => .cons (.d h) (RpAll.rvs q)
def datas : List DV → Option (List PyData)
  | [] => some []
  | .d x :: r => (datas r).map (x :: ·)
  | .r _ :: _ => none
  | .t _ :: _ => none
theorem datas_map : ∀ l : List PyData, datas (l.map .d) = some l
  | [] => rfl
  | x :: r => by simp [datas, datas_map r]
theorem datas_eq : ∀ {xs : List DV} {ds : List PyData}, datas xs = some ds → xs = ds.map .d
  | [], _, h => by cases h; rfl
  | .d x :: r, ds, h => by
    cases e : datas r with
    | none => simp [datas, e] at h
    | some l => simp [datas, e] at h; subst h; simp [← datas_eq e]
theorem RVs.all : ∀ {vs : List V} {ds : List PyData}, RVs K F vs (ds.map .d) → RpAll K F vs ds
  | _, [], h => by cases h; exact .nil
  | _, d :: ds, h => by
    cases h with
    | cons a b =>
      cases a with
      | d a => exact .cons a (RVs.all b)
theorem RE.mono (e : ∀ a o, F a = some o → F' a = some o) (h : RE K F σ ε) : RE K F' σ ε := ⟨h.1, fun i x q => let ⟨v, a, b⟩ := h.2 i x q; ⟨v, a, RV.mono e b⟩⟩
theorem RE.set {v : V} {x : DV} (h : RE K F σ ε) (r : RV K F v x) (i : Nat) : RE K F (σ.set i (some v)) (ε.set i (some x)) := by
  refine ⟨by rw [List.length_set, List.length_set]; exact h.1, fun j y q => ?_⟩
  by_cases e : i = j
  · subst e
    by_cases hl : i < ε.length
    · rw [List.getElem?_set_self hl] at q
      cases q
      exact ⟨v, by rw [List.getElem?_set_self (by rw [h.1]; exact hl)], r⟩
    · rw [List.getElem?_eq_none (by rw [List.length_set]; omega)] at q
      cases q
  · rw [List.getElem?_set_ne e] at q ⊢
    exact h.2 j y q
def wipeD (ε : Env) : List Nat → Env
  | [] => ε
  | v :: vs => (wipeD ε vs).set v none
theorem RE.setN (h : RE K F σ ε) (i : Nat) : RE K F (σ.set i none) (ε.set i none) := by
  refine ⟨by rw [List.length_set, List.length_set]; exact h.1, fun j y q => ?_⟩
  by_cases e : i = j
  · subst e
    by_cases hl : i < ε.length
    · rw [List.getElem?_set_self hl] at q
      cases q
    · rw [List.getElem?_eq_none (by rw [List.length_set]; omega)] at q
      cases q
  · rw [List.getElem?_set_ne e] at q ⊢
    exact h.2 j y q
theorem RE.wipe (h : RE K F σ ε) : ∀ vs : List Nat, RE K F (wipe σ vs) (wipeD ε vs)
  | [] => h
  | v :: vs => RE.setN (RE.wipe h vs) v
theorem MOk.mono (e : ∀ a o, F a = some o → F' a = some o) {a : Addr} (hh : H' a = H a) : ∀ {m : MO}, MOk K F H a m → MOk K F' H' a m
  | .lst _, ⟨vs, h, q⟩ => ⟨vs, hh.trans h, RVs.mono e q⟩
  | .dK _, ⟨vs, h, q⟩ => ⟨vs, hh.trans h, Paired.mapP q fun _ _ z => ⟨z.1, RV.mono e z.2⟩⟩
  | .dT _, ⟨vs, h, q⟩ => ⟨vs, hh.trans h, Paired.mapP q fun _ _ z => ⟨z.1, RV.mono e z.2⟩⟩
  | .ins _ _, ⟨dx, vs, h, q⟩ => ⟨dx, vs, hh.trans h, Paired.mapP q fun _ _ z => ⟨z.1, RV.mono e z.2⟩⟩
  | .lk _ _ _, ⟨h, q⟩ => ⟨hh.trans h, Paired.mapP q fun _ _ z => ⟨z.1, RV.mono e z.2⟩⟩
  | .xd _, ⟨vs, h, q⟩ => ⟨vs, hh.trans h, Paired.mapP q fun _ _ z => ⟨z.1, RV.mono e z.2⟩⟩
theorem MOk.some {a : Addr} {m : MO} (h : MOk K F H a m) : ∃ o, H a = some o := by
  cases m with
  | lst _ => obtain ⟨_, h, _⟩ := h; exact ⟨_, h⟩
  | dK _ => obtain ⟨_, h, _⟩ := h; exact ⟨_, h⟩
  | dT _ => obtain ⟨_, h, _⟩ := h; exact ⟨_, h⟩
  | ins _ _ => obtain ⟨_, _, h, _⟩ := h; exact ⟨_, h⟩
  | lk _ _ _ => obtain ⟨h, _⟩ := h; exact ⟨_, h⟩
  | xd _ => obtain ⟨_, h, _⟩ := h; exact ⟨_, h⟩
theorem Rs0.free (R : Rs0 K F H st) {p : Addr} (hp : H p = none) : F p = none ∧ st p = none := by
  constructor
  · cases e : F p with
    | none => rfl
    | some o => rw [(R.sub p o e).1] at hp; cases hp
  · cases e : st p with
    | none => rfl
    | some m => obtain ⟨o, q⟩ := (R.ok p m e).some; rw [hp] at q; cases q
/-- a new frozen object -/
theorem Rs0.frz (R : Rs0 K F H st) {p : Addr} {o : HO} (hp : H p = none) : Rs0 K (upd F p o) (upd H p o) st ∧ Step F H st (upd F p o) (upd H p o) st := by
  obtain ⟨f0, s0⟩ := R.free hp
  have e : ∀ a u, F a = some u → upd F p o a = some u := fun a u h => by
    rw [upd_ne (fun q => by rw [q, f0] at h; cases h)]; exact h
  have pr : ∀ a u, H a = some u → st a = none → upd H p o a = some u ∧ st a = none := fun a u h k => by
    refine ⟨?_, k⟩
    rw [upd_ne (fun q => by rw [q, hp] at h; cases h)]; exact h
  have fn : ∀ a u, upd F p o a = some u → F a ≠ none ∨ H a = none ∨ st a ≠ none ∨ ∃ ts, H a = some (.tup ts) := fun a u h => by
    by_cases q : a = p
    · subst q; exact .inr (.inl hp)
    · rw [upd_ne q] at h; exact .inl (by rw [h]; exact fun z => nomatch z)
  refine ⟨⟨fun a u h => ?_, fun a m h => ?_, R.tb.keep pr fn⟩, Step.of e pr fn⟩
  · by_cases q : a = p
    · subst q; rw [upd_same] at h ⊢; exact ⟨h, s0⟩
    · rw [upd_ne q] at h ⊢; exact R.sub a u h
  · refine MOk.mono e ?_ (R.ok a m h)
    exact upd_ne fun q => by rw [q, s0] at h; cases h
/-- a new hidden object, neither frozen nor in the store -/
theorem Rs0.hide (R : Rs0 K F H st) {p : Addr} {o : HO} (hp : H p = none) : Rs0 K F (upd H p o) st ∧ Step F H st F (upd H p o) st := by
  obtain ⟨f0, s0⟩ := R.free hp
  have pr : ∀ a u, H a = some u → st a = none → upd H p o a = some u ∧ st a = none := fun a u h k => by
    refine ⟨?_, k⟩
    rw [upd_ne (fun q => by rw [q, hp] at h; cases h)]; exact h
  refine ⟨⟨fun a u h => ?_, fun a m h => ?_, R.tb.keep pr old_F⟩, Step.of (fun _ _ h => h) pr fun a u h => .inl (by rw [h]; exact fun z => nomatch z)⟩
  · rw [upd_ne (fun q => by rw [q, f0] at h; cases h)]; exact R.sub a u h
  · refine MOk.mono (fun _ _ z => z) ?_ (R.ok a m h)
    exact upd_ne fun q => by rw [q, s0] at h; cases h
/-- a new object of the store -/
theorem Rs0.new (R : Rs0 K F H st) {p : Addr} {o : HO} {m : MO} (hp : H p = none) (hm : MOk K F (upd H p o) p m) : Rs0 K F (upd H p o) (up st p m) ∧ Step F H st F (upd H p o) (up st p m) := by
  obtain ⟨f0, s0⟩ := R.free hp
  have pr : ∀ a u, H a = some u → st a = none → upd H p o a = some u ∧ up st p m a = none := fun a u h k => by
    have q : a ≠ p := fun q => by rw [q, hp] at h; cases h
    rw [upd_ne q, up_ne q]; exact ⟨h, k⟩
  refine ⟨⟨fun a u h => ?_, fun a m' h => ?_, R.tb.keep pr old_F⟩, Step.of (fun _ _ h => h) pr fun a u h => .inl (by rw [h]; exact fun z => nomatch z)⟩
  · have q : a ≠ p := fun q => by rw [q, f0] at h; cases h
    rw [upd_ne q, up_ne q]; exact R.sub a u h
  · by_cases q : a = p
    · subst q; rw [up_same] at h; cases h; exact hm
    · rw [up_ne q] at h; exact MOk.mono (fun _ _ z => z) (upd_ne q) (R.ok a m' h)
/-- an object of the store written -/
theorem Rs0.put (R : Rs0 K F H st) {p : Addr} {o : HO} {m m0 : MO} (h0 : st p = some m0) (hm : MOk K F (upd H p o) p m) : Rs0 K F (upd H p o) (up st p m) ∧ Step F H st F (upd H p o) (up st p m) := by
  have f0 : ∀ u, F p ≠ some u := fun u h => by rw [(R.sub p u h).2] at h0; cases h0
  have pr : ∀ a u, H a = some u → st a = none → upd H p o a = some u ∧ up st p m a = none := fun a u h k => by
    have q : a ≠ p := fun q => by rw [q, h0] at k; cases k
    rw [upd_ne q, up_ne q]; exact ⟨h, k⟩
  refine ⟨⟨fun a u h => ?_, fun a m' h => ?_, R.tb.keep pr old_F⟩, Step.of (fun _ _ h => h) pr fun a u h => .inl (by rw [h]; exact fun z => nomatch z)⟩
  · have q : a ≠ p := fun q => f0 u (q ▸ h)
    rw [upd_ne q, up_ne q]; exact R.sub a u h
  · by_cases q : a = p
    · subst q; rw [up_same] at h; cases h; exact hm
    · rw [up_ne q] at h; exact MOk.mono (fun _ _ z => z) (upd_ne q) (R.ok a m' h)
/-- a hidden object written -/
theorem Rs0.hput (R : Rs0 K F H st) {p : Addr} {o : HO} (f0 : F p = none) (s0 : st p = none) (t0 : ∀ P q, (P, q) ∈ tB.T → P ≠ p) (c0 : ∀ q, H p ≠ some (LamX.CodeO p q)) : Rs0 K F (upd H p o) st := by
  refine ⟨fun a u h => ?_, fun a m' h => ?_, fun P hP => ?_⟩
  · have q : a ≠ p := fun q => by rw [q, f0] at h; cases h
    rw [upd_ne q]; exact R.sub a u h
  · have q : a ≠ p := fun q => by rw [q, s0] at h; cases h
    exact MOk.mono (fun _ _ z => z) (upd_ne q) (R.ok a m' h)
  · obtain ⟨hF, h0, ps, h1, h2, h3⟩ := R.tb P hP
    refine ⟨hF, h0, ps, by rw [upd_ne (t0 _ _ hP)]; exact h1, h2, fun pos cv hc => ?_⟩
    obtain ⟨c, e1, e2, e3⟩ := h3 pos cv hc
    exact ⟨c, e1, by rw [upd_ne (fun z => c0 P.2 (by rw [← z]; exact e2))]; exact e2, e3⟩
def Le (st st' : Sto) : Prop := ∀ a m, st a = some m → st' a = some m
theorem Le.refl (st : Sto) : Le st st := fun _ _ h => h
theorem Le.trans {a b c : Sto} (h : Le a b) (k : Le b c) : Le a c := fun x m q => k x m (h x m q)
theorem Le.up {a b : Sto} {p : Addr} {m : MO} (h : Le a b) (hp : a p = none) : Le a (up b p m) := fun x n q => by
  rw [up_ne (fun e => by rw [e, hp] at q; cases q)]; exact h x n q
theorem Le.non (h : Le st st') {a : Addr} (e : st' a = none) : st a = none := by
  cases e2 : st a with
  | none => rfl
  | some m => rw [h a m e2] at e; cases e
theorem Rs0.le (R : Rs0 K F H st') (h : Le st st') : Rs0 K F H st := ⟨fun a o q => ⟨(R.sub a o q).1, h.non (R.sub a o q).2⟩, fun a m q => R.ok a m (h a m q), R.tb.keep (fun a o e n => ⟨e, h.non n⟩) fun a o q => .inl (by rw [q]; exact fun z => (nomatch z))⟩
theorem Rs.free (R : Rs K F H st) {p : Addr} (hp : H p = none) : F p = none ∧ st p = none := R.toRs0.free hp
theorem Rs.frz (R : Rs K F H st) {p : Addr} {o : HO} (hp : H p = none) : Rs K (upd F p o) (upd H p o) st ∧ Step F H st (upd F p o) (upd H p o) st := let ⟨a, s⟩ := R.toRs0.frz hp; ⟨⟨a, Gr.cl R.gr s⟩, s⟩
theorem Rs.hide (R : Rs K F H st) {p : Addr} {o : HO} (hp : H p = none) : Rs K F (upd H p o) st ∧ Step F H st F (upd H p o) st := let ⟨a, s⟩ := R.toRs0.hide hp; ⟨⟨a, Gr.cl R.gr s⟩, s⟩
theorem Rs.new (R : Rs K F H st) {p : Addr} {o : HO} {m : MO} (hp : H p = none) (hm : MOk K F (upd H p o) p m) : Rs K F (upd H p o) (up st p m) ∧ Step F H st F (upd H p o) (up st p m) := let ⟨a, s⟩ := R.toRs0.new hp hm; ⟨⟨a, Gr.cl R.gr s⟩, s⟩
theorem Rs.put (R : Rs K F H st) {p : Addr} {o : HO} {m m0 : MO} (h0 : st p = some m0) (hm : MOk K F (upd H p o) p m) : Rs K F (upd H p o) (up st p m) ∧ Step F H st F (upd H p o) (up st p m) := let ⟨a, s⟩ := R.toRs0.put h0 hm; ⟨⟨a, Gr.cl R.gr s⟩, s⟩
theorem Step.hput {F H F' H' : Hp} {st st' : Sto} {p : Addr} {o : HO} (s : Step F H st F' H' st') (h : H p = none) : Step F H st F' (upd H' p o) st' :=
  ⟨s.ex, fun a u e n k => by
    have q : a ≠ p := fun q => by rw [q, h] at e; cases e
    rw [upd_ne q]
    exact s.pres a u e n k, s.fnew⟩
/-- a hidden object, new since an earlier state, written -/
theorem Rs.hput {F1 H1 : Hp} {st1 : Sto} (R : Rs K F1 H1 st1) {p : Addr} {o : HO} (f0 : F1 p = none) (s0 : st1 p = none) {o0 : HO} (hp1 : H1 p = some o0) (R0 : Rs K F H st) (s : Step F H st F1 H1 st1) (hp : H p = none) (pl : plainB o0 = true := by rfl) : Rs K F1 (upd H1 p o) st1 :=
  ⟨R.toRs0.hput f0 s0 (fun P q hm => R0.tb.none hp _ hm) (fun q z => by rw [hp1] at z; exact plain_co pl _ _ (Option.some.inj z)), Gr.cl R0.gr (s.hput hp)⟩
/-- an object new since then comes into the store -/
theorem Step.seen {F H F' H' : Hp} {st st' : Sto} {p : Addr} {m : MO} (s : Step F H st F' H' st') (h : H p = none) : Step F H st F' H' (up st' p m) :=
  ⟨s.ex, fun a u e n k => by
    have q : a ≠ p := fun q => by rw [q, h] at e; cases e
    rw [up_ne q]
    exact s.pres a u e n k, s.fnew⟩
/-- some of the store is forgotten -/
theorem Step.less {F H F' H' : Hp} {st st' st2 : Sto} (t : Step F H st F' H' st') (le : Le st2 st') : Step F H st F' H' st2 := ⟨t.ex, fun b o e nt n => ⟨(t.pres b o e nt n).1, le.non (t.pres b o e nt n).2⟩, t.fnew⟩
/-- by a step -/
theorem Rs.by {F1 H1 : Hp} {st1 : Sto} (R0 : Rs K F H st) (R : Rs0 K F1 H1 st1) (s : Step F H st F1 H1 st1) : Rs K F1 H1 st1 := ⟨R, Gr.cl R0.gr s⟩
end
end DL
end
section
set_option Elab.async false
set_option linter.all false
set_option maxRecDepth 100000
set_option maxHeartbeats 2000000
namespace DL
open PySem L2 PyProof.Rows
variable [tB : Tb] [gR : Gr]
abbrev TD := Env → Sto → (DV → Sto → Prop) → Prop
abbrev TDt := Env → Sto → (Bool → Sto → Prop) → Prop
abbrev TDa := Env → Sto → (List DV → Sto → Prop) → Prop
abbrev R2D := DV → DV → Sto → (DV → Sto → Prop) → Prop
abbrev R1D := DV → Sto → (DV → Sto → Prop) → Prop
abbrev RLD := List DV → Sto → (DV → Sto → Prop) → Prop
/-- what is wanted of what comes out -/
def Kg {α β : Type} (rel : Hp → α → β → Prop) (K : PySem.W.Frag) (F H : Hp) (st : Sto) (Qd : β → Sto → Prop) (Q : α → Hp → Prop) : Prop :=
  ∀ F' a H' b st', Step F H st F' H' st' → Rs K F' H' st' → rel F' a b → Qd b st' → Q a H'
def Sg {α β : Type} (rel : Hp → α → β → Prop) (K : PySem.W.Frag) (te : L2.St → Hp → (α → Hp → Prop) → Prop) (t : Env → Sto → (β → Sto → Prop) → Prop) : Prop :=
  ∀ F σ H ε st Qd Q, Rs K F H st → RE K F σ ε → t ε st Qd → Kg rel K F H st Qd Q → te σ H Q
theorem Kg.at {α β : Type} {rel : Hp → α → β → Prop} {K : PySem.W.Frag} {F H : Hp} {st : Sto} {Qd : β → Sto → Prop} {Q : α → Hp → Prop} (k : Kg rel K F H st Qd Q) {a : α} {b : β} (R : Rs K F H st) (r : rel F a b) (q : Qd b st) : Q a H :=
  k F a H b st (Step.refl _ _ _) R r q
omit gR in
theorem Rs0.tr {K : PySem.W.Frag} {F H : Hp} {st : Sto} (R : Rs0 K F H st) : @Rs _ Gr.tr K F H st := ⟨R, True.intro⟩
omit gR in
theorem Rs0.of {K : PySem.W.Frag} {F H : Hp} {st : Sto} (R : @Rs _ Gr.tr K F H st) : Rs0 K F H st := R.toRs0
theorem Kg.tr {α β : Type} {rel : Hp → α → β → Prop} {K : PySem.W.Frag} {F H : Hp} {st : Sto} {Qd : β → Sto → Prop} {Q : α → Hp → Prop} (k : Kg rel K F H st Qd Q) (R : Rs K F H st) : @Kg _ Gr.tr α β rel K F H st Qd Q :=
  fun F' a H' b st' s R' r q => k F' a H' b st' s (R.by (Rs0.of R') s) r q
abbrev relT : Hp → Bool → Bool → Prop := fun _ a b => a = b
structure DE (X : Cx) (e : Expr) (t : TD) : Prop where
  ex : ∃ te, PE X e te ∧ Sg (RV X.K) X.K te t
structure DT (X : Cx) (e : Expr) (t : TDt) : Prop where
  ex : ∃ te, PT X e te ∧ Sg relT X.K te t
structure DW (X : Cx) (e : Expr) (t : TDt) : Prop where
  ex : ∃ te, PW X e te ∧ Sg relT X.K te t
structure DA (X : Cx) (es : List Expr) (t : TDa) : Prop where
  ex : ∃ te, PA X es te ∧ Sg (RVs X.K) X.K te t
/-- two values in, one out -/
def S2 (K : PySem.W.Frag) (r' : R2) (r : R2D) : Prop := ∀ F H st v w x y Qd Q, Rs K F H st → RV K F v x → RV K F w y → r x y st Qd → Kg (RV K) K F H st Qd Q → r' v w H Q
def S1 (K : PySem.W.Frag) (r' : V → Hp → VK → Prop) (r : R1D) : Prop := ∀ F H st v x Qd Q, Rs K F H st → RV K F v x → r x st Qd → Kg (RV K) K F H st Qd Q → r' v H Q
def SL (K : PySem.W.Frag) (r' : List V → Hp → VK → Prop) (r : RLD) : Prop := ∀ F H st vs xs Qd Q, Rs K F H st → RVs K F vs xs → r xs st Qd → Kg (RV K) K F H st Qd Q → r' vs H Q
/-- the context of a piece of a def's body -/
structure Cok (P : Program) (w : World) (K : PySem.W.Frag) (mg : Str → Option Value) (base : Heap) (X : Cx) (N : List Str) (sc fs : Scope) (k : Nat) : Prop where
  hP : X.prog = P
  hw : X.w = w
  hK : X.K = K
  hmg : X.mg = mg
  hb : X.base = base
  hN : X.N = N
  nd : N.Nodup
  kind : sc.kind = .function
  hs : X.env.scope = sc
  calm : X.calm = true
  fn : ∀ x, fs.names.lookup x = some .cell → X.fn x = true
  room : Room k X.A
  pass : PassesOwn (model X.prog X.w) X.A X.env X.xe
section
variable {P : Program} {w : World} {K : PySem.W.Frag} {mg : Str → Option Value} {base : Heap} {X : Cx} {N : List Str} {sc fs : Scope} {k : Nat}
def visB (N : List Str) (sc : Scope) (i : Nat) (x : Str) : Bool :=
  decide (N[i]? = some x) && (match sc.names.lookup x with | some .local => true | some .cell => true | some .free => true | _ => false) && !(x == ("__debug__" : Str)) && !(x == ("__classdict__" : Str))
def locB (N : List Str) (sc fs : Scope) (i : Nat) (x : Str) : Bool :=
  decide (N[i]? = some x) && (match sc.names.lookup x with | some .local => true | some .cell => (match fs.names.lookup x with | some .cell => true | _ => false) | _ => false)
def glB (sc : Scope) (x : Str) : Bool := (match sc.names.lookup x with | some .globalImplicit => true | _ => false) && !(x == ("__debug__" : Str)) && !(x == ("__name__" : Str))
def qv (i : Nat) : TD := fun ε st Q => match ε[i]? with | some (some x) => Q x st | _ => False
theorem de_var {i : Nat} {x : Str} {pos : Pos} (c : Cok P w K mg base X N sc fs k) (h : visB N sc i x = true) : DE X (.Name x pos) (qv i) := by
  unfold visB at h
  simp only [Bool.and_eq_true, decide_eq_true_eq, Bool.not_eq_true'] at h
  obtain ⟨⟨⟨h1, h2⟩, h3⟩, h4⟩ := h
  refine ⟨⟨tVar i, pe_var (by rw [c.hN]; exact h1) ?_ h3 h4, fun F σ H ε st Qd Q R E q kk => ?_⟩⟩
  · unfold Vis
    rw [c.hs]
    split at h2 <;> first | exact .inl (by assumption) | exact .inr (.inl (by assumption)) | exact .inr (.inr (by assumption)) | cases h2
  · unfold qv at q
    split at q
    · rename_i x e
      obtain ⟨v, e2, r⟩ := E.2 i x e
      exact ⟨v, e2, kk.at R r q⟩
    · exact q.elim
def qc (x : DV) : TD := fun _ st Q => Q x st
theorem de_int {i j pos} : DE X (.Constant (.int i) j pos) (qc (.d (.int i))) := ⟨⟨_, pe_int, fun F σ H ε st Qd Q R E q kk => kk.at R (.d (.int i)) q⟩⟩
theorem de_bl {b j pos} : DE X (.Constant (.bool b) j pos) (qc (.d (.bool b))) := ⟨⟨_, pe_bl, fun F σ H ε st Qd Q R E q kk => kk.at R (.d (.bl b)) q⟩⟩
theorem de_non {j pos} : DE X (.Constant .none j pos) (qc (.d .none)) := ⟨⟨_, pe_non, fun F σ H ε st Qd Q R E q kk => kk.at R (.d .non) q⟩⟩
theorem de_str {x j pos} : DE X (.Constant (.str x) j pos) (qc (.d (.str x))) := ⟨⟨_, pe_str, fun F σ H ε st Qd Q R E q kk => kk.at R (.d (.str x)) q⟩⟩
theorem Sg.bin {α β γ δ ξ ζ : Type} {rel1 : Hp → α → β → Prop} {rel2 : Hp → γ → δ → Prop} {rel3 : Hp → ξ → ζ → Prop} {ta : L2.St → Hp → (α → Hp → Prop) → Prop} {tb : L2.St → Hp → (γ → Hp → Prop) → Prop}
    {da : Env → Sto → (β → Sto → Prop) → Prop} {db : Env → Sto → (δ → Sto → Prop) → Prop} {r' : α → γ → Hp → (ξ → Hp → Prop) → Prop} {r : β → δ → Sto → (ζ → Sto → Prop) → Prop}
    (sa : Sg rel1 K ta da) (sb : Sg rel2 K tb db) (mono : ∀ F F' a b, (∀ x o, F x = some o → F' x = some o) → rel1 F a b → rel1 F' a b)
    (hs : ∀ F H st v w x y Qd Q, Rs K F H st → rel1 F v x → rel2 F w y → r x y st Qd → Kg rel3 K F H st Qd Q → r' v w H Q) :
    Sg rel3 K (fun σ H Q => ta σ H fun x H1 => tb σ H1 fun y H2 => r' x y H2 Q) (fun ε st Q => da ε st fun x s1 => db ε s1 fun y s2 => r x y s2 Q) := by
  intro F σ H ε st Qd Q R E h kk
  refine sa F σ H ε st _ _ R E h fun F1 v H1 x s1 t1 R1 rv q => ?_
  refine sb F1 σ H1 ε s1 _ _ R1 (E.mono t1.ex) q fun F2 u H2 y s2 t2 R2 ru q2 => ?_
  exact hs F2 H2 s2 v u x y _ _ R2 (mono _ _ _ _ t2.ex rv) ru q2 fun F3 z H3 z' s3 t3 R3 rz q3 => kk F3 z H3 z' s3 ((t1.trans t2).trans t3) R3 rz q3
def qOp (r : R2D) (ta tb : TD) : TD := fun ε st Q => ta ε st fun x s1 => tb ε s1 fun y s2 => r x y s2 Q
theorem de_op {op : Operator} {a b : Expr} {pos : Pos} {ta tb : TD} {r' : R2} {r : R2D} (ho : OpR X (binaryOp op) r') (hs : S2 X.K r' r) (ha : DE X a ta) (hb : DE X b tb) : DE X (.BinOp a op b pos) (qOp r ta tb) := by
  obtain ⟨te, pa, sa⟩ := ha
  obtain ⟨tf, pb, sb⟩ := hb
  exact ⟨⟨_, pe_op ho pa pb, Sg.bin sa sb (fun _ _ _ _ e h => RV.mono e h) hs⟩⟩
theorem de_cmp {op : CmpOp} {a b : Expr} {pos : Pos} {ta tb : TD} {r' : R2} {r : R2D} (ho : OpR X (compareOp op) r') (hs : S2 X.K r' r) (hm : behindInMarks op b = false) (ha : DE X a ta) (hb : DE X b tb) : DE X (.Compare a [op] [b] pos) (qOp r ta tb) := by
  obtain ⟨te, pa, sa⟩ := ha
  obtain ⟨tf, pb, sb⟩ := hb
  exact ⟨⟨_, pe_cmpR ho pa pb hm, Sg.bin sa sb (fun _ _ _ _ e h => RV.mono e h) hs⟩⟩
def qUn (r : R1D) (ta : TD) : TD := fun ε st Q => ta ε st fun x s1 => r x s1 Q
theorem Sg.go {α β γ δ : Type} {rel1 : Hp → α → β → Prop} {rel3 : Hp → γ → δ → Prop} {ta : L2.St → Hp → (α → Hp → Prop) → Prop} {da : Env → Sto → (β → Sto → Prop) → Prop} {F H : Hp} {σ : L2.St} {ε : Env} {st : Sto} {G : β → Sto → Prop} {W : α → Hp → Prop}
    {Qd : δ → Sto → Prop} {Q : γ → Hp → Prop} (sa : Sg rel1 K ta da) (R : Rs K F H st) (E : RE K F σ ε) (h : da ε st G) (kk : Kg rel3 K F H st Qd Q)
    (hs : ∀ F1 H1 s1 v x, Rs K F1 H1 s1 → RE K F1 σ ε → rel1 F1 v x → G x s1 → Kg rel3 K F1 H1 s1 Qd Q → W v H1) : ta σ H W := by
  refine sa F σ H ε st _ _ R E h fun F1 v H1 x s1 t1 R1 rv q => ?_
  exact hs F1 H1 s1 v x R1 (E.mono t1.ex) rv q fun F3 z H3 z' s3 t3 R3 rz q3 => kk F3 z H3 z' s3 (t1.trans t3) R3 rz q3
theorem de_un {op : UnaryOp} {a : Expr} {pos : Pos} {ta : TD} {r' : V → Hp → VK → Prop} {r : R1D} (ho : UnR X (unaryOp op) r') (hs : S1 X.K r' r) (ha : DE X a ta) : DE X (.UnaryOp op a pos) (qUn r ta) := by
  obtain ⟨te, pa, sa⟩ := ha
  exact ⟨⟨_, pe_un ho pa, fun F σ H ε st Qd Q R E h kk => sa.go R E h kk fun F1 H1 s1 v x R1 E1 rv q kk => hs F1 H1 s1 v x _ _ R1 rv q kk⟩⟩
def onB (Q : Bool → Sto → Prop) : DV → Sto → Prop
  | .d (.bool b), s => Q b s
  | _, _ => False
theorem onB_out {Q : Bool → Sto → Prop} {x : DV} {s : Sto} (h : onB Q x s) : ∃ b, x = .d (.bool b) ∧ Q b s := by
  unfold onB at h
  split at h
  · exact ⟨_, rfl, h⟩
  · exact h.elim
def qTest (ta : TD) : TDt := fun ε st Q => ta ε st (onB Q)
theorem dt_val {e : Expr} {ta : TD} (ha : DE X e ta) (he : ∀ whole, isTrue e X.env whole = (do let v ← whole; standAt e.pos; holding [v] (truthy v)) := by intro _; rfl) : DT X e (qTest ta) := by
  obtain ⟨te, pa, sa⟩ := ha
  refine ⟨⟨_, pt_val pa he, fun F σ H ε st Qd Q R E h kk => sa.go R E h kk fun F1 H1 s1 v x R1 E1 rv q kk => ?_⟩⟩
  obtain ⟨b, e, q⟩ := onB_out q
  subst e
  cases rv with
  | d rv => cases rv; exact ⟨b, rfl, kk.at R1 rfl q⟩
def qNotT (t : TDt) : TDt := fun ε st Q => t ε st fun b s1 => Q (!b) s1
theorem dt_not {a : Expr} {pos : Pos} {t : TDt} (ha : DT X a t) : DT X (.UnaryOp .Not a pos) (qNotT t) := by
  obtain ⟨te, pa, sa⟩ := ha
  refine ⟨⟨_, pt_not pa, fun F σ H ε st Qd Q R E h kk => sa.go R E h kk fun F1 H1 s1 v x R1 E1 rv q kk => ?_⟩⟩
  cases rv
  exact kk.at R1 rfl q
def qAndT (t u : TDt) : TDt := fun ε st Q => t ε st fun b s1 => if b = true then u ε s1 Q else Q false s1
def qOrT (t u : TDt) : TDt := fun ε st Q => t ε st fun b s1 => if b = true then Q true s1 else u ε s1 Q
theorem DW.pt {e : Expr} {t : TDt} (h : DW X e t) : DT X e t := let ⟨te, p, s⟩ := h.ex; ⟨⟨te, p.pt, s⟩⟩
theorem dw_and1 {a : Expr} {pos : Pos} {t : TDt} (ha : DT X a t) : DW X (.BoolOp .And [a] pos) t := let ⟨te, p, s⟩ := ha.ex; ⟨⟨te, pw_and1 p, s⟩⟩
theorem dw_or1 {a : Expr} {pos : Pos} {t : TDt} (ha : DT X a t) : DW X (.BoolOp .Or [a] pos) t := let ⟨te, p, s⟩ := ha.ex; ⟨⟨te, pw_or1 p, s⟩⟩
theorem dw_and {a b : Expr} {rest : List Expr} {pos : Pos} {t u : TDt} (ha : DT X a t) (hb : DW X (.BoolOp .And (b :: rest) pos) u) : DW X (.BoolOp .And (a :: b :: rest) pos) (qAndT t u) := by
  obtain ⟨te, pa, sa⟩ := ha
  obtain ⟨tf, pb, sb⟩ := hb
  refine ⟨⟨_, pw_and pa pb, fun F σ H ε st Qd Q R E h kk => ?_⟩⟩
  refine sa F σ H ε st _ _ R E h fun F1 v H1 x s1 t1 R1 rv q => ?_
  cases rv
  cases v with
  | true => exact sb F1 σ H1 ε s1 _ _ R1 (E.mono t1.ex) q fun F3 z H3 z' s3 t3 R3 rz q3 => kk F3 z H3 z' s3 (t1.trans t3) R3 rz q3
  | false => exact kk F1 _ H1 _ s1 t1 R1 rfl q
theorem dw_or {a b : Expr} {rest : List Expr} {pos : Pos} {t u : TDt} (ha : DT X a t) (hb : DW X (.BoolOp .Or (b :: rest) pos) u) : DW X (.BoolOp .Or (a :: b :: rest) pos) (qOrT t u) := by
  obtain ⟨te, pa, sa⟩ := ha
  obtain ⟨tf, pb, sb⟩ := hb
  refine ⟨⟨_, pw_or pa pb, fun F σ H ε st Qd Q R E h kk => ?_⟩⟩
  refine sa F σ H ε st _ _ R E h fun F1 v H1 x s1 t1 R1 rv q => ?_
  cases rv
  cases v with
  | false => exact sb F1 σ H1 ε s1 _ _ R1 (E.mono t1.ex) q fun F3 z H3 z' s3 t3 R3 rz q3 => kk F3 z H3 z' s3 (t1.trans t3) R3 rz q3
  | true => exact kk F1 _ H1 _ s1 t1 R1 rfl q
/-- and, or, not as values -/
def qAndV (ta tb : TD) : TD := fun ε st Q => ta ε st (onB fun b s1 => if b = true then tb ε s1 Q else Q (.d (.bool false)) s1)
def qOrV (ta tb : TD) : TD := fun ε st Q => ta ε st (onB fun b s1 => if b = true then Q (.d (.bool true)) s1 else tb ε s1 Q)
def qNotV (ta : TD) : TD := fun ε st Q => ta ε st (onB fun b s1 => Q (.d (.bool (!b))) s1)
theorem de_one {op} {a : Expr} {pos : Pos} {t : TD} (h : DE X a t) : DE X (.BoolOp op [a] pos) t := let ⟨te, p, s⟩ := h.ex; ⟨⟨te, pe_one p, s⟩⟩
theorem de_and {a b : Expr} {rest : List Expr} {pos : Pos} {ta tb : TD} (ha : DE X a ta) (hb : DE X (.BoolOp .And (b :: rest) pos) tb) : DE X (.BoolOp .And (a :: b :: rest) pos) (qAndV ta tb) := by
  obtain ⟨te, pa, sa⟩ := ha
  obtain ⟨tf, pb, sb⟩ := hb
  refine ⟨⟨_, pe_and pa pb, fun F σ H ε st Qd Q R E h kk => ?_⟩⟩
  refine sa F σ H ε st _ _ R E h fun F1 v H1 x s1 t1 R1 rv q => ?_
  obtain ⟨b, rfl, q⟩ := onB_out q
  cases rv with
  | d rv =>
    cases rv
    refine ⟨b, rfl, ?_⟩
    cases b with
    | true => exact sb F1 σ H1 ε s1 _ _ R1 (E.mono t1.ex) q fun F3 z H3 z' s3 t3 R3 rz q3 => kk F3 z H3 z' s3 (t1.trans t3) R3 rz q3
    | false => exact kk F1 _ H1 _ s1 t1 R1 (.d (.bl false)) q
theorem de_not {a : Expr} {pos : Pos} {ta : TD} (ha : DE X a ta) : DE X (.UnaryOp .Not a pos) (qNotV ta) := by
  obtain ⟨te, pa, sa⟩ := ha
  refine ⟨⟨_, pe_not pa, fun F σ H ε st Qd Q R E h kk => sa.go R E h kk fun F1 H1 s1 v x R1 E1 rv q kk => ?_⟩⟩
  obtain ⟨b, e, q⟩ := onB_out q
  subst e
  cases rv with
  | d rv => cases rv; exact ⟨b, rfl, kk.at R1 (.d (.bl _)) q⟩
def qIf (t : TDt) (ta tb : TD) : TD := fun ε st Q => t ε st fun b s1 => if b = true then ta ε s1 Q else tb ε s1 Q
theorem de_if {c a b : Expr} {pos : Pos} {t : TDt} {ta tb : TD} (hc : DT X c t) (ha : DE X a ta) (hb : DE X b tb) : DE X (.IfExp c a b pos) (qIf t ta tb) := by
  obtain ⟨tc, pc, sc'⟩ := hc
  obtain ⟨te, pa, sa⟩ := ha
  obtain ⟨tf, pb, sb⟩ := hb
  refine ⟨⟨_, pe_ifExp pc pa pb, fun F σ H ε st Qd Q R E h kk => ?_⟩⟩
  refine sc' F σ H ε st _ _ R E h fun F1 v H1 x s1 t1 R1 rv q => ?_
  cases rv
  cases v with
  | true => exact sa F1 σ H1 ε s1 _ _ R1 (E.mono t1.ex) q fun F3 z H3 z' s3 t3 R3 rz q3 => kk F3 z H3 z' s3 (t1.trans t3) R3 rz q3
  | false => exact sb F1 σ H1 ε s1 _ _ R1 (E.mono t1.ex) q fun F3 z H3 z' s3 t3 R3 rz q3 => kk F3 z H3 z' s3 (t1.trans t3) R3 rz q3
/-- a < b < c -/
def qChain (r r2 : R2D) (ta tb tc : TD) : TD := fun ε st Q => ta ε st fun x s1 => tb ε s1 fun y s2 => r x y s2 (onB fun b s3 => if b = true then tc ε s3 fun u s4 => r2 y u s4 Q else Q (.d (.bool false)) s3)
theorem chain_sim {r1 r2 : R2} {d1 d2 : R2D} {te tf tg : TE} {ta tb tc : TD} (h1 : S2 K r1 d1) (h2 : S2 K r2 d2) (sa : Sg (RV K) K te ta) (sb : Sg (RV K) K tf tb) (sc' : Sg (RV K) K tg tc) : Sg (RV K) K (tChain r1 r2 te tf tg) (qChain d1 d2 ta tb tc) := by
  intro F σ H ε st Qd Q R E h kk
  refine sa F σ H ε st _ _ R E h fun F1 v H1 x s1 t1 R1 rv q => ?_
  refine sb F1 σ H1 ε s1 _ _ R1 (E.mono t1.ex) q fun F2 u H2 y s2 t2 R2 ru q2 => ?_
  refine h1 F2 H2 s2 v u x y _ _ R2 (rv.mono t2.ex) ru q2 fun F3 z H3 z' s3 t3 R3 rz q3 => ?_
  obtain ⟨b, rfl, q3⟩ := onB_out q3
  cases rz with
  | d rz =>
    cases rz
    refine ⟨b, rfl, ?_⟩
    have t123 := (t1.trans t2).trans t3
    cases b with
    | true =>
      refine sc' F3 σ H3 ε s3 _ _ R3 (E.mono t123.ex) q3 fun F4 a4 H4 b4 s4 t4 R4 r4 q4 => ?_
      exact h2 F4 H4 s4 u a4 y b4 _ _ R4 (ru.mono (t3.trans t4).ex) r4 q4 fun F5 z H5 z' s5 t5 R5 rz q5 => kk F5 z H5 z' s5 ((t123.trans t4).trans t5) R5 rz q5
    | false => exact kk F3 _ H3 _ s3 t123 R3 (.d (.bl false)) q3
theorem de_chain {op op' : CmpOp} {a b c : Expr} {pos : Pos} {ta tb tc : TD} {r1 r2 : R2} {d1 d2 : R2D} (ho : OpR X (compareOp op) r1) (h1 : S2 X.K r1 d1) (ho2 : OpR X (compareOp op') r2) (h2 : S2 X.K r2 d2)
    (ha : DE X a ta) (hb : DE X b tb) (hc : DE X c tc) (hp : ∀ t1 t2 t3, PE X a t1 → PE X b t2 → PE X c t3 → PE X (.Compare a [op, op'] [b, c] pos) (tChain r1 r2 t1 t2 t3)) : DE X (.Compare a [op, op'] [b, c] pos) (qChain d1 d2 ta tb tc) := by
  obtain ⟨te, pa, sa⟩ := ha
  obtain ⟨tf, pb, sb⟩ := hb
  obtain ⟨tg, pc, sc'⟩ := hc
  refine ⟨⟨_, hp _ _ _ pa pb pc, chain_sim h1 h2 sa sb sc'⟩⟩
def qNil : TDa := fun _ st Q => Q [] st
def qCons (ta : TD) (tr : TDa) : TDa := fun ε st Q => ta ε st fun x s1 => tr ε s1 fun xs s2 => Q (x :: xs) s2
theorem da_nil : DA X [] qNil := ⟨⟨_, pa_nil, fun F σ H ε st Qd Q R E q kk => kk.at R .nil q⟩⟩
theorem da_cons {e : Expr} {es : List Expr} {t : TD} {u : TDa} (h : DE X e t) (hr : DA X es u) (hs : starEach (e :: es) X.env = (false, eval e X.env) :: starEach es X.env := by rfl) : DA X (e :: es) (qCons t u) := by
  obtain ⟨te, pa, sa⟩ := h
  obtain ⟨tf, pb, sb⟩ := hr
  exact ⟨⟨_, pa_cons pa pb hs, Sg.bin (r' := fun x xs H Q => Q (x :: xs) H) (r := fun x xs st Q => Q (x :: xs) st) sa sb (fun _ _ _ _ e h => RV.mono e h) fun F H st v w x y Qd Q R rv rw q kk => kk.at R (.cons rv rw) q⟩⟩
theorem Rs.ex (F H : Hp) (st : Sto) (R : Rs K F H st) : ∀ a o, F a = some o → H a = some o := fun a o h => (R.sub a o h).1
def mkT (xs : List DV) : DV := match datas xs with | some ds => .d (.tuple ds) | none => .t xs
theorem mkT_rv {F : Hp} {vs : List V} {xs : List DV} {p : Addr} (h : F p = some (.tup vs)) (r : RVs K F vs xs) : RV K F (.ref p) (mkT xs) := by
  unfold mkT
  cases e : datas xs with
  | some ds =>
    have e2 := datas_eq e
    subst e2
    exact .d (.tup h r.all)
  | none => exact .t h r
/-- a new tuple -/
theorem new_tup {F H : Hp} {st : Sto} {vs : List V} {xs : List DV} {p : Addr} {Qd : DV → Sto → Prop} {Q : VK} (R : Rs K F H st) (r : RVs K F vs xs) (hp : H p = none) (q : Qd (mkT xs) st) (kk : Kg (RV K) K F H st Qd Q) : Q (.ref p) (upd H p (.tup vs)) := by
  obtain ⟨R', t⟩ := R.frz (o := .tup vs) hp
  exact kk _ _ _ _ _ t R' (mkT_rv upd_same (r.mono t.ex)) q
/-- a new list: tracked (m) or frozen -/
def newL (m : Bool) (xs : List DV) (st : Sto) (Q : DV → Sto → Prop) : Prop := match m with
  | true => ∀ p, st p = none → Q (.r p) (up st p (.lst xs))
  | false => match datas xs with | some ds => Q (.d (.list ds)) st | none => False
theorem new_lst {F H : Hp} {st : Sto} {vs : List V} {xs : List DV} {m : Bool} {p : Addr} {Qd : DV → Sto → Prop} {Q : VK} (R : Rs K F H st) (r : RVs K F vs xs) (hp : H p = none) (q : newL m xs st Qd) (kk : Kg (RV K) K F H st Qd Q) : Q (.ref p) (upd H p (.lst vs)) := by
  cases m with
  | true =>
    obtain ⟨R', t⟩ := R.new (o := .lst vs) (m := .lst xs) hp ⟨vs, upd_same, r⟩
    exact kk _ _ _ _ _ t R' (.r p) (q p (R.free hp).2)
  | false =>
    unfold newL at q
    simp only at q
    split at q
    rotate_left
    · exact q.elim
    rename_i ds ed
    have ed2 := datas_eq ed
    subst ed2
    obtain ⟨R', t⟩ := R.frz (o := .lst vs) hp
    exact kk _ _ _ _ _ t R' (.d (.lst (SqL.of upd_same) (r.mono t.ex).all)) q
def qTup (t : TDa) : TD := fun ε st Q => t ε st fun xs s1 => xs.length ≤ sizeLine ∧ Q (mkT xs) s1
def qLst (m : Bool) (t : TDa) : TD := fun ε st Q => t ε st fun xs s1 => xs.length ≤ sizeLine ∧ newL m xs s1 Q
theorem de_tup {es : List Expr} {j : Nat} {pos : Pos} {t : TDa} (h : DA X es t) : DE X (.Tuple es j pos) (qTup t) := by
  obtain ⟨te, pa, sa⟩ := h
  refine ⟨⟨_, pe_tup pa, fun F σ H ε st Qd Q R E h kk => sa.go R E h kk fun F1 H1 s1 v x R1 E1 rv q kk => ?_⟩⟩
  exact ⟨by rw [rv.length]; exact q.1, fun p hp => new_tup R1 rv hp q.2 kk⟩
theorem de_lst {es : List Expr} {pos : Pos} {t : TDa} (m : Bool) (h : DA X es t) : DE X (.List es pos) (qLst m t) := by
  obtain ⟨te, pa, sa⟩ := h
  refine ⟨⟨_, pe_lst pa, fun F σ H ε st Qd Q R E h kk => sa.go R E h kk fun F1 H1 s1 v x R1 E1 rv q kk => ?_⟩⟩
  exact ⟨by rw [rv.length]; exact q.1, fun p hp => new_lst R1 rv hp q.2 kk⟩
end
end DL
end
section
set_option Elab.async false
set_option linter.all false
set_option maxRecDepth 100000
set_option maxHeartbeats 4000000
namespace DL
open PySem L2 PyProof.Rows HT
section
variable {prog : Program} {w : World} {A : Around} {E : Value → Shared → Prop} {s : Shared}
theorem tuple_mul_same (l : Addr) (items : Array Value) (n : Nat) (dd : Option Addr) (sl : Array (Option Value)) (x : Int) (u : Tok) (c0 : (decide (x < -(2 ^ 63)) || decide (x ≥ 2 ^ 63)) = false) (c1 : (items.isEmpty || x == 1) = true) :
    Meets (Builtin.«tuple.__mul__» ⟨[.ref l, .int x u], []⟩) (fun _ R s => s.heap.get? l = some { cls := .type "tuple", dict := dd, data := .seq items n, slots := sl } ∧ R (.ok (.ret (Value.ref l))) s) :=
  .of_wp fun prog w A R s h => by
    obtain ⟨hp, g, d, tk, os⟩ := s
    obtain ⟨hl, h⟩ := h
    have f1 := AutoSeq1.idx_int
    wp_walk using wpAny_loadPart' hl
    repeat (first
      | (refine wpAny_ite_false (decide_eq_false (by rw [c0]; exact Bool.false_ne_true)) ?_; wp_walk using wpAny_loadPart' hl)
      | (refine wpAny_ite_true (decide_eq_true c1) ?_; wp_walk using wpAny_loadPart' hl))
    all_goals exact ⟨_, rfl, h⟩
theorem tuple_mul_none (l : Addr) (items : Array Value) (n : Nat) (dd : Option Addr) (sl : Array (Option Value)) (x : Int) (u : Tok) (c0 : (decide (x < -(2 ^ 63)) || decide (x ≥ 2 ^ 63)) = false) (c1 : (items.isEmpty || x == 1) = false) (c2 : (decide (x ≤ 0) || items.isEmpty) = true) :
    Meets (Builtin.«tuple.__mul__» ⟨[.ref l, .int x u], []⟩) (fun _ R s => s.heap.get? l = some { cls := .type "tuple", dict := dd, data := .seq items n, slots := sl } ∧ R (.ok (.ret (Value.ref s.heap.objs.size))) { s with heap := s.heap.push { cls := Value.type "tuple", data := Data.seq #[] }, toks := s.toks }) :=
  .of_wp fun prog w A R s h => by
    obtain ⟨hp, g, d, tk, os⟩ := s
    obtain ⟨hl, h⟩ := h
    have f1 := AutoSeq1.idx_int
    wp_walk using wpAny_loadPart' hl
    repeat (first
      | (refine wpAny_ite_false (decide_eq_false (by rw [c0]; exact Bool.false_ne_true)) ?_; wp_walk using wpAny_loadPart' hl)
      | (refine wpAny_ite_false (decide_eq_false (by rw [c1]; exact Bool.false_ne_true)) ?_; wp_walk using wpAny_loadPart' hl)
      | (refine wpAny_ite_true (decide_eq_true c2) ?_; wp_walk using wpAny_loadPart' hl))
    all_goals exact ⟨_, rfl, h⟩
end
section
variable {X : Cx}
theorem OpR.or2 {f : Value → Value → Sem Value} {r r' : R2} (h : OpR X f r) (h' : OpR X f r') : OpR X f (fun x y H Q => r x y H Q ∨ r' x y H Q) := by
  intro pins s σ H x y v u Q I rx ry q
  rcases q with q | q
  · exact h pins s σ H x y v u Q I rx ry q
  · exact h' pins s σ H x y v u Q I rx ry q
def rRepA (K : PySem.W.Frag) : R2 := fun x y H Q => ∃ l k xs, x = .ref l ∧ y = .int k ∧ SqT K H l xs ∧ xs ≠ [] ∧ k ≤ 1000 ∧ -1000 ≤ k ∧ xs.length ≤ 1000 ∧ (k = 1 → Q (.ref l) H) ∧ (k ≠ 1 → ∀ p, H p = none → Q (.ref p) (upd H p (.tup (List.replicate k.toNat xs).flatten)))
theorem op_repA : OpR X (binaryOp .Mult) (rRepA X.K) := by
  intro pins s σ H x y v u Q I rx ry h
  obtain ⟨l, k, xs, rfl, rfl, hT, hne, h2, h1, hz, q1, q⟩ := h
  by_cases h3 : 2 ≤ k
  · exact op_repT pins s σ H _ _ v u Q I rx ry ⟨l, k, xs, rfl, rfl, hT, hne, h3, h2, hz, q (by omega)⟩
  cases rx
  obtain ⟨t, rfl⟩ := ry
  obtain ⟨its, r, ⟨⟨cls, dd, data, sl⟩, ho, hc, n, hd⟩, hs⟩ := I.tuple hT
  simp only at hc hd
  subst hc hd
  have hn : its ≠ [] := fun e => hne (by
    have hle : its.length = xs.length := r.length.symm
    rw [e] at hle
    exact List.eq_nil_of_length_eq_zero hle.symm)
  have hi : its.toArray.isEmpty = false := by
    cases its with
    | nil => exact absurd rfl hn
    | cons a b => rfl
  have c0 : (decide (k < -(2 ^ 63)) || decide (k ≥ 2 ^ 63)) = false := by
    rw [decide_eq_false (by omega), decide_eq_false (by omega)] <;> rfl
  by_cases h4 : k = 1
  · subst h4
    exact wpAny_binaryOp_repeat_ref (T := "tuple") (U := "int") (by decide) ⟨_, ho, rfl⟩ (fun s' => typeIs_int s' 1 t) noFill_tuple_mul F.fills_int_mul F.slot_int_rmul repeat_tuple F.slot_int_index.lookup
      (call_meets F.slot_int_rmul (typeIs_int s 1 t) F.entry_int_rmul (F.args_int_rmul_2 _ _) (int_rmul_tuple 1 t l its.toArray n dd sl)
        ⟨ho, rfl, ⟨_, ho, rfl⟩, call_meets F.slot_tuple_mul ⟨_, ho, rfl⟩ F.entry_tuple_mul (F.args_tuple_mul_2 _ _) (tuple_mul_same l its.toArray n dd sl 1 t c0 (by rw [hi]; rfl)) ⟨ho, ⟨.ref l, H, I, rfl, q1 rfl⟩⟩⟩)
  · have c1 : (its.toArray.isEmpty || k == 1) = false := by
      rw [hi, Bool.false_or]
      exact beq_eq_false_iff_ne.mpr h4
    have c2 : (decide (k ≤ 0) || its.toArray.isEmpty) = true := by
      rw [decide_eq_true (by omega)] <;> rfl
    refine wpAny_binaryOp_repeat_ref (T := "tuple") (U := "int") (by decide) ⟨_, ho, rfl⟩ (fun s' => typeIs_int s' k t) noFill_tuple_mul F.fills_int_mul F.slot_int_rmul repeat_tuple F.slot_int_index.lookup
      (call_meets F.slot_int_rmul (typeIs_int s k t) F.entry_int_rmul (F.args_int_rmul_2 _ _) (int_rmul_tuple k t l its.toArray n dd sl)
        ⟨ho, rfl, ⟨_, ho, rfl⟩, call_meets F.slot_tuple_mul ⟨_, ho, rfl⟩ F.entry_tuple_mul (F.args_tuple_mul_2 _ _) (tuple_mul_none l its.toArray n dd sl k t c0 c1 c2) ⟨ho, ?_⟩⟩)
    have e0 : k.toNat = 0 := by omega
    have q' := q h4
    rw [e0] at q'
    refine ⟨.ref s.heap.objs.size, _, I.laid (t' := s.toks) (o := .tup []) (fun b ob q => Heap.get?_push_of_some _ q) (Nat.le_refl _) ?_, rfl, q' _ (I.hok.fresh (Nat.le_refl _))⟩
    exact ⟨Nat.zero_le _, [], .nil, IsTup.new _ _⟩
def rCatL (K : PySem.W.Frag) : R2 := fun x y H Q => ∃ l b xs zs, x = .ref l ∧ y = .ref b ∧ SqL K H l xs ∧ SqL K H b zs ∧ xs.length + zs.length ≤ sizeLine ∧ ∀ p, H p = none → Q (.ref p) (upd H p (.lst (xs ++ zs)))
theorem op_catL : OpR X (binaryOp .Add) (rCatL X.K) := by
  intro pins s σ H x y v u Q I rx ry h
  obtain ⟨l, b, xs, zs, rfl, rfl, hH, hB, hz, q⟩ := h
  cases rx
  cases ry
  obtain ⟨its, r, ⟨⟨cls, dd, data, sl⟩, n, ho, hc, hd0, hd⟩, hs⟩ := I.list hH
  obtain ⟨its2, r2, ⟨⟨cls2, dd2, data2, sl2⟩, n2, ho2, hc2, hd02, hd2⟩, hs2⟩ := I.list hB
  simp only at hc hd hc2 hd2
  subst hc hd hc2 hd2
  have hlen := r.length
  have hlen2 := r2.length
  have e : its.toArray ++ its2.toArray = (its ++ its2).toArray := by simp
  refine concat_meets ⟨_, ho, rfl⟩ ⟨_, ho2, rfl⟩ noFill_list_add seq_list_add PySem.F.slot_list_add PySem.F.entry_list_add (PySem.F.args_list_add_2 _ _) (list_addW l b its.toArray its2.toArray n n2 dd dd2 sl sl2 (by simp only [List.size_toArray]; omega)) ⟨ho, ho2, ?_⟩
  rw [e]
  exact ⟨.ref _, _, I.lnew (t' := s.toks) (r.append r2) (by rw [List.length_append]; omega), rfl, q _ I.fresh⟩
end
end DL
end
section
set_option Elab.async false
set_option linter.all false
set_option maxRecDepth 100000
set_option maxHeartbeats 4000000
namespace DL
open PySem L2 PyProof.Rows
variable [tB : Tb] [gR : Gr]
def titems : DV → Option (List DV)
  | .d (.tuple xs) => some (xs.map .d)
  | .t xs => some xs
  | _ => none
def litems (st : Sto) : DV → Option (List DV)
  | .d (.list xs) => some (xs.map .d)
  | .r a => match st a with | some (.lst xs) => some xs | _ => none
  | _ => none
def sitems (st : Sto) (x : DV) : Option (List DV) := match titems x with | some l => some l | none => litems st x
def fz (st : Sto) : DV → Option PyData
  | .d x => some x
  | .t _ => none
  | .r a => match st a with | some (.lst xs) => (datas xs).map .list | _ => none
section
variable {K : PySem.W.Frag} {F H : Hp} {st : Sto} {v w : V} {x y : DV}
theorem rv_int {i : Int} (r : RV K F v (.d (.int i))) : v = .int i := by cases r with | d r => cases r; rfl
theorem rv_bool {b : Bool} (r : RV K F v (.d (.bool b))) : v = .bl b := by cases r with | d r => cases r; rfl
theorem rv_str {z : Str} (r : RV K F v (.d (.str z))) : v = .str z := by cases r with | d r => cases r; rfl
theorem rv_none (r : RV K F v (.d .none)) : v = .non := by cases r with | d r => cases r; rfl
theorem titems_rv {xs : List DV} (r : RV K F v x) (h : titems x = some xs) : ∃ a vs, v = .ref a ∧ F a = some (.tup vs) ∧ RVs K F vs xs := by
  cases x with
  | d z =>
    cases z with
    | tuple ds => cases h; cases r with | d r => cases r with | tup q s => exact ⟨_, _, rfl, q, s.rvs⟩
    | _ => cases h
  | t ys => cases h; cases r with | t q s => exact ⟨_, _, rfl, q, s⟩
  | r a => cases h
theorem litems_rv {xs : List DV} (R : Rs K F H st) (r : RV K F v x) (h : litems st x = some xs) : ∃ a vs, v = .ref a ∧ SqL K H a vs ∧ RVs K F vs xs := by
  cases x with
  | d z =>
    cases z with
    | list ds => cases h; cases r with | d r => cases r with | lst q s => exact ⟨_, _, rfl, SqL.mono (Rs.ex F H st R) q, s.rvs⟩
    | _ => cases h
  | t ys => cases h
  | r a =>
    cases r
    unfold litems at h
    simp only at h
    cases e : st a with
    | none => rw [e] at h; cases h
    | some m =>
      rw [e] at h
      cases m with
      | lst ys =>
        cases h
        obtain ⟨vs, q, s⟩ := R.ok a _ e
        exact ⟨a, vs, rfl, SqL.of q, s⟩
      | dK _ => cases h
      | dT _ => cases h
      | ins _ _ => cases h
      | lk _ _ _ => cases h
      | xd _ => cases h
theorem sitems_rv {xs : List DV} (R : Rs K F H st) (r : RV K F v x) (h : sitems st x = some xs) : ∃ a vs, v = .ref a ∧ (SqL K H a vs ∨ SqT K H a vs) ∧ RVs K F vs xs := by
  unfold sitems at h
  cases e : titems x with
  | some l =>
    rw [e] at h
    cases h
    obtain ⟨a, vs, e1, q, s⟩ := titems_rv r e
    exact ⟨a, vs, e1, .inr (SqT.of (R.sub _ _ q).1), s⟩
  | none =>
    rw [e] at h
    obtain ⟨a, vs, e1, q, s⟩ := litems_rv R r h
    exact ⟨a, vs, e1, .inl q, s⟩
theorem fz_dp {d : PyData} (R : Rs K F H st) (r : RV K F v x) (h : fz st x = some d) : Dp K H v d := by
  cases x with
  | d z => cases h; cases r with | d r => exact r.dp (Rs.ex F H st R)
  | t ys => cases h
  | r a =>
    cases r
    unfold fz at h
    simp only at h
    cases e : st a with
    | none => rw [e] at h; cases h
    | some m =>
      rw [e] at h
      cases m with
      | lst ys =>
        simp only at h
        cases e2 : datas ys with
        | none => rw [e2] at h; cases h
        | some ds =>
          rw [e2] at h
          cases h
          have e3 := datas_eq e2
          subst e3
          obtain ⟨vs, q, s⟩ := R.ok a _ e
          exact .lst (SqL.of q) (s.all.dp (Rs.ex F H st R))
      | dK _ => cases h
      | dT _ => cases h
      | ins _ _ => cases h
      | lk _ _ _ => cases h
      | xd _ => cases h
/-- + -/
def qAdd (m : Bool) : R2D := fun x y st Q => match x, y with
  | .d (.int i), .d (.int j) => Q (.d (.int (i + j))) st
  | .d (.str a), .d (.str b) => a.length + b.length ≤ sizeLine ∧ Q (.d (.str (a ++ b))) st
  | _, _ => match titems x, titems y with
    | some a, some b => a.length + b.length ≤ sizeLine ∧ Q (mkT (a ++ b)) st
    | _, _ => match litems st x, litems st y with
      | some a, some b => a.length + b.length ≤ sizeLine ∧ newL m (a ++ b) st Q
      | _, _ => False
variable {X : Cx}
theorem op_qAdd (m : Bool) : ∃ r', OpR X (binaryOp .Add) r' ∧ S2 X.K r' (qAdd m) := by
  refine ⟨_, OpR.or2 (OpR.or2 op_add op_add_str) (OpR.or2 op_catA op_catL), ?_⟩
  intro F H st v w x y Qd Q R rv rw' h kk
  unfold qAdd at h
  split at h
  · cases rv_int rv; cases rv_int rw'
    exact .inl (.inl ⟨_, _, rfl, rfl, kk.at R (.d (.int _)) h⟩)
  · cases rv_str rv; cases rv_str rw'
    exact .inl (.inr ⟨_, _, rfl, rfl, h.1, kk.at R (.d (.str _)) h.2⟩)
  · refine .inr ?_
    split at h
    · rename_i a b ea eb
      obtain ⟨p, vs, rfl, q1, s1⟩ := titems_rv rv ea
      obtain ⟨p2, ws, rfl, q2, s2⟩ := titems_rv rw' eb
      have hl := s1.length
      have hl2 := s2.length
      refine .inl ⟨p, p2, vs, ws, rfl, rfl, SqT.of (R.sub _ _ q1).1, SqT.of (R.sub _ _ q2).1, by omega, fun e => ?_, fun _ e => ?_, fun _ _ p hp => new_tup R (s1.append s2) hp h.2 kk⟩
      · subst e
        cases s1
        exact kk.at R (mkT_rv q2 s2) h.2
      · subst e
        cases s2
        rw [List.append_nil] at h
        exact kk.at R (mkT_rv q1 s1) h.2
    · split at h
      · rename_i a b ea eb
        obtain ⟨p, vs, rfl, q1, s1⟩ := litems_rv R rv ea
        obtain ⟨p2, ws, rfl, q2, s2⟩ := litems_rv R rw' eb
        have hl := s1.length
        have hl2 := s2.length
        exact .inr ⟨p, p2, vs, ws, rfl, rfl, q1, q2, by omega, fun p hp => new_lst R (s1.append s2) hp h.2 kk⟩
      · exact h.elim
/-- dints in, an int out -/
def qI2 (C : Int → Int → Prop) (g : Int → Int → Int) : R2D := fun x y st Q => match x, y with
  | .d (.int i), .d (.int j) => C i j ∧ Q (.d (.int (g i j))) st
  | _, _ => False
theorem qI2_out {C : Int → Int → Prop} {g : Int → Int → Int} {x y : DV} {st : Sto} {Q : DV → Sto → Prop} (h : qI2 C g x y st Q) : ∃ i j, x = .d (.int i) ∧ y = .d (.int j) ∧ C i j ∧ Q (.d (.int (g i j))) st := by
  unfold qI2 at h
  split at h
  · exact ⟨_, _, rfl, rfl, h⟩
  · exact h.elim
theorem s2_I2 {C : Int → Int → Prop} {g : Int → Int → Int} : S2 K (rI C fun i j => .int (g i j)) (qI2 C g) := fun F H st v w x y Qd Q R rv rw' h kk => by
  obtain ⟨i, j, e1, e2, hc, q⟩ := qI2_out h
  subst e1 e2
  cases rv_int rv; cases rv_int rw'
  exact ⟨i, j, rfl, rfl, hc, kk.at R (.d (.int _)) q⟩
theorem s2_I0 {g : Int → Int → Int} : S2 K (rI0 fun i j => .int (g i j)) (qI2 (fun _ _ => True) g) := fun F H st v w x y Qd Q R rv rw' h kk => by
  obtain ⟨i, j, e1, e2, hc, q⟩ := qI2_out h
  subst e1 e2
  cases rv_int rv; cases rv_int rw'
  exact ⟨i, j, rfl, rfl, kk.at R (.d (.int _)) q⟩
def qSub : R2D := qI2 (fun _ _ => True) fun i j => i - j
def CMulA (i j : Int) : Prop := CMul i j ∨ CMulW i j
def qMul (m : Bool) : R2D := fun x y st Q => match x, y with
  | .d (.int i), .d (.int j) => CMulA i j ∧ Q (.d (.int (i * j))) st
  | _, .d (.int k) => match titems x with
    | some a => a ≠ [] ∧ k ≤ 1000 ∧ -1000 ≤ k ∧ a.length ≤ 1000 ∧ Q (mkT (List.replicate k.toNat a).flatten) st
    | none => False
  | _, _ => False
theorem rep_rvs {vs : List V} {xs : List DV} (r : RVs K F vs xs) : ∀ n : Nat, RVs K F (List.replicate n vs).flatten (List.replicate n xs).flatten
  | 0 => .nil
  | n + 1 => by
    rw [List.replicate_succ, List.replicate_succ, List.flatten_cons, List.flatten_cons]
    exact r.append (rep_rvs r n)
theorem op_qMul (m : Bool) : ∃ r', OpR X (binaryOp .Mult) r' ∧ S2 X.K r' (qMul m) := by
  refine ⟨_, OpR.or2 (OpR.or2 op_mul op_mulW) op_repA, ?_⟩
  intro F H st v w x y Qd Q R rv rw' h kk
  unfold qMul at h
  split at h
  · cases rv_int rv; cases rv_int rw'
    rcases h.1 with hc | hc
    · exact .inl (.inl ⟨_, _, rfl, rfl, hc, kk.at R (.d (.int _)) h.2⟩)
    · exact .inl (.inr ⟨_, _, rfl, rfl, hc, kk.at R (.d (.int _)) h.2⟩)
  · cases rv_int rw'
    refine .inr ?_
    split at h
    · rename_i a ea
      obtain ⟨p, vs, rfl, q1, s1⟩ := titems_rv rv ea
      have hl := s1.length
      obtain ⟨h1, h2, h3, h4, h5⟩ := h
      refine ⟨p, _, vs, rfl, rfl, SqT.of (R.sub _ _ q1).1, fun e => h1 ?_, h2, h3, by omega, fun e => ?_, fun _ p hp => new_tup R (rep_rvs s1 _) hp h5 kk⟩
      · subst e
        cases s1
        rfl
      · subst e
        have e1 : (List.replicate (1 : Int).toNat a).flatten = a := by simp
        rw [e1] at h5
        exact kk.at R (mkT_rv q1 s1) h5
    · exact h.elim
  · exact h.elim
def CFd (i j : Int) : Prop := (j ≠ 0 ∧ j.natAbs < 1073741824) ∨ CDivW i j
def qFdiv : R2D := qI2 CFd fun i j => i.fdiv j
theorem op_qFdiv : ∃ r', OpR X (binaryOp .FloorDiv) r' ∧ S2 X.K r' qFdiv := by
  refine ⟨_, OpR.or2 op_fdivN op_fdivW, ?_⟩
  intro F H st v w x y Qd Q R rv rw' h kk
  obtain ⟨i, j, rfl, rfl, hc, q⟩ := qI2_out h
  cases rv_int rv; cases rv_int rw'
  rcases hc with hc | hc
  · exact .inl ⟨i, j, rfl, rfl, hc, kk.at R (.d (.int _)) q⟩
  · refine .inr ⟨i, j, rfl, rfl, hc, ?_⟩
    have h0 : (0 : Int) < j := hc.1
    show Q (V.int (i / j)) H
    rw [show i / j = i.fdiv j from (Int.fdiv_eq_ediv_of_nonneg i (by omega)).symm]
    exact kk.at R (.d (.int _)) q
def qMod : R2D := qI2 (fun _ j => j ≠ 0) fun i j => i.fmod j
theorem op_qMod : ∃ r', OpR X (binaryOp .Mod) r' ∧ S2 X.K r' qMod := ⟨_, op_modN, s2_I2⟩
def qPow : R2D := qI2 CPow fun i j => i ^ j.toNat
theorem op_qPow : ∃ r', OpR X (binaryOp .Pow) r' ∧ S2 X.K r' qPow := ⟨_, op_pow, s2_I2⟩
theorem op_qSub : ∃ r', OpR X (binaryOp .Sub) r' ∧ S2 X.K r' qSub := ⟨_, op_sub, s2_I0⟩
theorem de_bin {op : Operator} {a b : Expr} {pos : Pos} {ta tb : TD} {r : R2D} (ho : ∃ r', OpR X (binaryOp op) r' ∧ S2 X.K r' r) (ha : DE X a ta) (hb : DE X b tb) : DE X (.BinOp a op b pos) (qOp r ta tb) :=
  let ⟨_, h1, h2⟩ := ho; de_op h1 h2 ha hb
theorem de_cp {op : CmpOp} {a b : Expr} {pos : Pos} {ta tb : TD} {r : R2D} (ho : ∃ r', OpR X (compareOp op) r' ∧ S2 X.K r' r) (hm : behindInMarks op b = false) (ha : DE X a ta) (hb : DE X b tb) : DE X (.Compare a [op] [b] pos) (qOp r ta tb) :=
  let ⟨_, h1, h2⟩ := ho; de_cmp h1 h2 hm ha hb
theorem de_ch {op op' : CmpOp} {a b c : Expr} {pos : Pos} {ta tb tc : TD} {d1 d2 : R2D} (ho : ∃ r', OpR X (compareOp op) r' ∧ S2 X.K r' d1) (ho2 : ∃ r', OpR X (compareOp op') r' ∧ S2 X.K r' d2) (hm : lastMarks [op, op'] [b, c] = false)
    (ha : DE X a ta) (hb : DE X b tb) (hc : DE X c tc) : DE X (.Compare a [op, op'] [b, c] pos) (qChain d1 d2 ta tb tc) :=
  let ⟨_, h1, h2⟩ := ho; let ⟨_, h3, h4⟩ := ho2; de_chain h1 h2 h3 h4 ha hb hc fun _ _ _ p1 p2 p3 => pe_chain h1 h3 p1 p2 p3 hm
theorem test_sg {te : TE} {t : TD} (a : Sg (RV K) K te t) : Sg relT K (fun σ H Q => te σ H fun z H1 => ∃ k, z = .bl k ∧ Q k H1) (qTest t) := fun F σ H ε st Qd Q R E h kk =>
  a.go R E h kk fun F1 H1 s1 v x R1 E1 rv q kk => by
    obtain ⟨b, rfl, q⟩ := onB_out q
    cases rv_bool rv
    exact ⟨b, rfl, kk.at R1 rfl q⟩
theorem dt_cp {op : CmpOp} {a b : Expr} {pos : Pos} {ta tb : TD} {r : R2D} (ho : ∃ r', OpR X (compareOp op) r' ∧ S2 X.K r' r) (hm : behindInMarks op b = false) (ha : DE X a ta) (hb : DE X b tb) : DT X (.Compare a [op] [b] pos) (qTest (qOp r ta tb)) := by
  obtain ⟨r', h1, h2⟩ := ho
  obtain ⟨te, pa, sa⟩ := ha
  obtain ⟨tf, pb, sb⟩ := hb
  exact ⟨⟨_, pt_cmpR h1 pa pb hm, test_sg (Sg.bin sa sb (fun _ _ _ _ e h => RV.mono e h) h2)⟩⟩
theorem dt_ch {op op' : CmpOp} {a b c : Expr} {pos : Pos} {ta tb tc : TD} {d1 d2 : R2D} (ho : ∃ r', OpR X (compareOp op) r' ∧ S2 X.K r' d1) (ho2 : ∃ r', OpR X (compareOp op') r' ∧ S2 X.K r' d2) (hm : lastMarks [op, op'] [b, c] = false)
    (ha : DE X a ta) (hb : DE X b tb) (hc : DE X c tc) : DT X (.Compare a [op, op'] [b, c] pos) (qTest (qChain d1 d2 ta tb tc)) := by
  obtain ⟨r1, h1, h2⟩ := ho
  obtain ⟨r2, h3, h4⟩ := ho2
  obtain ⟨te, pa, sa⟩ := ha
  obtain ⟨tf, pb, sb⟩ := hb
  obtain ⟨tg, pc, sc'⟩ := hc
  refine ⟨⟨_, pt_chain h1 h3 pa pb pc hm, test_sg (fun F σ H ε st Qd Q R E h kk => ?_)⟩⟩
  exact chain_sim h2 h4 sa sb sc' F σ H ε st Qd Q R E h kk
def qEq : R2D := fun x y st Q => match fz st x, fz st y with
  | some a, some b => SeqAt.shaped a = true ∧ SeqAt.shaped b = true ∧ Q (.d (.bool (PyData.eqv a b))) st
  | _, _ => False
def qNe : R2D := fun x y st Q => match fz st x, fz st y with
  | some a, some b => SeqAt.shaped a = true ∧ SeqAt.shaped b = true ∧ Q (.d (.bool (!PyData.eqv a b))) st
  | _, _ => False
theorem op_qEq (hu : X.A.units + 64 < cLine) : ∃ r', OpR X (compareOp .Eq) r' ∧ S2 X.K r' qEq :=
  ⟨_, op_eqD hu, fun F H st v w x y Qd Q R rv rw' h kk => by
    unfold qEq at h
    split at h
    · rename_i a b e1 e2
      exact ⟨a, b, fz_dp R rv e1, fz_dp R rw' e2, h.1, h.2.1, kk.at R (.d (.bl _)) h.2.2⟩
    · exact h.elim⟩
theorem op_qNe (hu : X.A.units + 64 < cLine) : ∃ r', OpR X (compareOp .NotEq) r' ∧ S2 X.K r' qNe :=
  ⟨_, op_neD hu, fun F H st v w x y Qd Q R rv rw' h kk => by
    unfold qNe at h
    split at h
    · rename_i a b e1 e2
      exact ⟨a, b, fz_dp R rv e1, fz_dp R rw' e2, h.1, h.2.1, kk.at R (.d (.bl _)) h.2.2⟩
    · exact h.elim⟩
def dints : List DV → Option (List Int)
  | [] => some []
  | .d (.int i) :: r => (dints r).map (i :: ·)
  | _ :: _ => none
theorem dints_rvs : ∀ {vs : List V} {xs : List DV} {ns : List Int}, RVs K F vs xs → dints xs = some ns → vs = ns.map V.int ∧ xs = ns.map fun i => .d (.int i)
  | _, [], ns, r, h => by cases h; cases r; exact ⟨rfl, rfl⟩
  | v :: vs, .d (.int i) :: xs, ns, .cons r q, h => by
    cases e : dints xs with
    | none => simp [dints, e] at h
    | some l =>
      simp [dints, e] at h
      subst h
      obtain ⟨h1, h2⟩ := dints_rvs q e
      cases rv_int r
      exact ⟨by rw [h1]; rfl, by rw [h2]; rfl⟩
theorem dints_map : ∀ l : List Int, dints (l.map fun i => .d (.int i)) = some l
  | [] => rfl
  | i :: r => by simp [dints, dints_map r]
def qCmpI (g : Int → Int → Bool) : R2D := fun x y st Q => match x, y with
  | .d (.int i), .d (.int j) => Q (.d (.bool (g i j))) st
  | _, _ => False
theorem s2_cmpI {g : Int → Int → Bool} : S2 K (rI0 fun i j => .bl (g i j)) (qCmpI g) := fun F H st v w x y Qd Q R rv rw' h kk => by
  unfold qCmpI at h
  split at h
  · cases rv_int rv; cases rv_int rw'
    exact ⟨_, _, rfl, rfl, kk.at R (.d (.bl _)) h⟩
  · exact h.elim
def qLt : R2D := fun x y st Q => match x, y with
  | .d (.int i), .d (.int j) => Q (.d (.bool (decide (i < j)))) st
  | _, _ => match (titems x).bind dints, (titems y).bind dints with
    | some ns, some ms => Q (.d (.bool (HT.lexLt ns ms))) st
    | _, _ => False
theorem op_qLt (hu : X.A.units < cLine) : ∃ r', OpR X (compareOp .Lt) r' ∧ S2 X.K r' qLt := by
  refine ⟨_, OpR.or2 op_lt (op_ltT hu), ?_⟩
  intro F H st v w x y Qd Q R rv rw' h kk
  unfold qLt at h
  split at h
  · cases rv_int rv; cases rv_int rw'
    exact .inl ⟨_, _, rfl, rfl, kk.at R (.d (.bl _)) h⟩
  · split at h
    rotate_left
    · exact h.elim
    rename_i ns ms e13 e24
    have q := h
    obtain ⟨a, e1, e3⟩ := Option.bind_eq_some_iff.mp e13
    obtain ⟨b, e2, e4⟩ := Option.bind_eq_some_iff.mp e24
    obtain ⟨p, vs, rfl, q1, s1⟩ := titems_rv rv e1
    obtain ⟨p2, ws, rfl, q2, s2⟩ := titems_rv rw' e2
    obtain ⟨rfl, _⟩ := dints_rvs s1 e3
    obtain ⟨rfl, _⟩ := dints_rvs s2 e4
    exact .inr ⟨p, p2, ns, ms, rfl, rfl, SqT.of (R.sub _ _ q1).1, SqT.of (R.sub _ _ q2).1, kk.at R (.d (.bl _)) q⟩
def qLe : R2D := qCmpI fun i j => decide (i ≤ j)
def qGt : R2D := qCmpI fun i j => decide (j < i)
def qGe : R2D := qCmpI fun i j => decide (j ≤ i)
theorem op_qLe : ∃ r', OpR X (compareOp .LtE) r' ∧ S2 X.K r' qLe := ⟨_, op_le, s2_cmpI⟩
theorem op_qGt : ∃ r', OpR X (compareOp .Gt) r' ∧ S2 X.K r' qGt := ⟨_, op_gt, s2_cmpI⟩
theorem op_qGe : ∃ r', OpR X (compareOp .GtE) r' ∧ S2 X.K r' qGe := ⟨_, op_ge, s2_cmpI⟩
/-- is None -/
def isN : DV → Bool
  | .d .none => true
  | _ => false
def qIsN : R2D := fun x y st Q => y = .d .none ∧ Q (.d (.bool (isN x))) st
def qNotN : R2D := fun x y st Q => y = .d .none ∧ Q (.d (.bool (!isN x))) st
theorem rv_isN (r : RV K F v x) : decide (v = .non) = isN x := by
  cases r with
  | d r => cases r <;> rfl
  | r a => rfl
  | t _ _ => rfl
theorem op_qNotN : ∃ r', OpR X (compareOp .IsNot) r' ∧ S2 X.K r' qNotN := by
  refine ⟨_, op_notN, ?_⟩
  rintro F H st v w x y Qd Q R rv rw' ⟨rfl, q⟩ kk
  cases rv_none rw'
  refine ⟨rfl, ?_⟩
  rw [rv_isN rv]
  exact kk.at R (.d (.bl _)) q
/-- unary minus -/
def qNeg : R1D := fun x st Q => match x with | .d (.int i) => Q (.d (.int (-i))) st | _ => False
theorem de_neg {a : Expr} {pos : Pos} {ta : TD} (ha : DE X a ta) : DE X (.UnaryOp .USub a pos) (qUn qNeg ta) :=
  de_un un_neg (fun F H st v x Qd Q R rv h kk => by
    unfold qNeg at h
    split at h
    · cases rv_int rv; exact ⟨_, rfl, kk.at R (.d (.int _)) h⟩
    · exact h.elim) ha
theorem atI_rv {vs : List V} {xs : List DV} {i : Int} {x : DV} (r : RVs K F vs xs) (h : atI xs i = some x) : ∃ v, atI vs i = some v ∧ RV K F v x := by
  unfold atI at h ⊢
  rw [r.length]
  cases e : ixN xs.length i with
  | none => rw [e] at h; cases h
  | some j =>
    rw [e] at h
    exact r.get' h
def qIx : R2D := fun x y st Q => match y with
  | .d (.int i) => match x with
    | .d (.str z) => z.length ≤ sizeLine ∧ (match atI z.cps.toList i with | some c => Q (.d (.str ⟨#[c]⟩)) st | none => False)
    | _ => match sitems st x with
      | some xs => (match atI xs i with | some z => Q z st | none => False)
      | none => False
  | _ => False
theorem de_ix {a b : Expr} {pos : Pos} {ta tb : TD} (ha : DE X a ta) (hb : DE X b tb) (hs : PlainIx b) : DE X (.Subscript a b pos) (qOp qIx ta tb) := by
  obtain ⟨te, pa, sa⟩ := ha
  obtain ⟨tf, pb, sb⟩ := hb
  refine ⟨⟨_, pe_ix ix_seq pa pb hs, Sg.bin sa sb (fun _ _ _ _ e h => RV.mono e h) ?_⟩⟩
  intro F H st v w x y Qd Q R rv rw' h kk
  unfold qIx at h
  split at h
  · cases rv_int rw'
    split at h
    · cases rv_str rv
      obtain ⟨h1, h⟩ := h
      split at h
      · rename_i c h2
        exact .inr (.inr ⟨_, _, c, rfl, rfl, h1, h2, kk.at R (.d (.str _)) h⟩)
      · exact h.elim
    · split at h
      · rename_i xs es
        split at h
        rotate_left
        · exact h.elim
        rename_i z ez
        have q := h
        obtain ⟨p, vs, rfl, hq, s⟩ := sitems_rv R rv es
        obtain ⟨u, eu, ru⟩ := atI_rv s ez
        rcases hq with hq | hq
        · exact .inl ⟨p, vs, _, u, rfl, rfl, hq, eu, kk.at R ru q⟩
        · exact .inr (.inl ⟨p, vs, _, u, rfl, rfl, hq, eu, kk.at R ru q⟩)
      · exact h.elim
  · exact h.elim
/-- parts of a slice -/
abbrev relO : Hp → Option Int → Option Int → Prop := fun _ a b => a = b
structure DO (X : Cx) (e : Option Expr) (t : Env → Sto → (Option Int → Sto → Prop) → Prop) : Prop where
  ex : ∃ te, PO X e te ∧ Sg relO X.K te t
def qNoPart : Env → Sto → (Option Int → Sto → Prop) → Prop := fun _ st Q => Q none st
def qPart (ta : TD) : Env → Sto → (Option Int → Sto → Prop) → Prop := fun ε st Q => ta ε st fun x s1 => match x with | .d (.int i) => Q (some i) s1 | _ => False
theorem do_none : DO X none qNoPart := ⟨⟨_, po_none, fun F σ H ε st Qd Q R E q kk => kk.at R rfl q⟩⟩
theorem do_some {e : Expr} {ta : TD} (h : DE X e ta) : DO X (some e) (qPart ta) := by
  obtain ⟨te, pa, sa⟩ := h
  refine ⟨⟨_, po_some pa, fun F σ H ε st Qd Q R E h kk => sa.go R E h kk fun F1 H1 s1 v x R1 E1 rv q kk => ?_⟩⟩
  split at q
  · cases rv_int rv
    exact ⟨_, rfl, kk.at R1 rfl q⟩
  · exact q.elim
def cutD {α : Type} (xs : List α) (lo hi : Option Int) : List α := (xs.drop (HT.sIx xs.length 0 lo)).take (HT.sIx xs.length xs.length hi - HT.sIx xs.length 0 lo)
theorem cut_rvs {vs : List V} {xs : List DV} (r : RVs K F vs xs) (lo hi : Option Int) : RVs K F (cutV vs lo hi) (cutD xs lo hi) := by
  unfold cutV cutD
  rw [r.length]
  exact (r.drop _).take _
theorem cutD_map {α β : Type} (f : α → β) (xs : List α) (lo hi : Option Int) : cutD (xs.map f) lo hi = (cutD xs lo hi).map f := by
  unfold cutD
  rw [List.length_map, List.map_take, List.map_drop]
def qSl (m : Bool) (te : TD) (tl th : Env → Sto → (Option Int → Sto → Prop) → Prop) : TD := fun ε st Q => te ε st fun x s1 => tl ε s1 fun lo s2 => th ε s2 fun hi s3 => match x with
  | .d (.str z) => z.length ≤ sizeLine ∧ Q (.d (.str (cutS z lo hi))) s3
  | _ => match titems x with
    | some xs => Q (mkT (cutD xs lo hi)) s3
    | none => match litems s3 x with
      | some xs => newL m (cutD xs lo hi) s3 Q
      | none => False
theorem de_sl {e : Expr} {lo hi : Option Expr} {p2 pos : Pos} {te : TD} {tl th : Env → Sto → (Option Int → Sto → Prop) → Prop} (m : Bool) (he : DE X e te) (hl : DO X lo tl) (hh : DO X hi th) : DE X (.Subscript e (.Slice lo hi none p2) pos) (qSl m te tl th) := by
  obtain ⟨t1, pa, sa⟩ := he
  obtain ⟨t2, pb, sb⟩ := hl
  obtain ⟨t3, pc, sc⟩ := hh
  refine ⟨⟨_, pe_slice (SlR.or (SlR.or sl_list sl_tupA) sl_str) pa pb pc, fun F σ H ε st Qd Q R E h kk => ?_⟩⟩
  refine sa.go R E h kk fun F1 H1 s1 v x R1 E1 rv h kk => ?_
  refine sb F1 σ H1 ε s1 _ _ R1 E1 h fun F2 l H2 l' s2 t2 R2 rl h => ?_
  refine sc F2 σ H2 ε s2 _ _ R2 (E1.mono t2.ex) h fun F3 u H3 u' s3 t3 R3 ru h => ?_
  cases rl; cases ru
  have rv3 := rv.mono (t2.trans t3).ex
  have kk3 : Kg (RV X.K) X.K F3 H3 s3 Qd Q := fun F4 z H4 z' s4 t4 R4 rz q4 => kk F4 z H4 z' s4 ((t2.trans t3).trans t4) R4 rz q4
  split at h
  · cases rv_str rv
    exact .inr ⟨_, rfl, h.1, kk3.at R3 (.d (.str _)) h.2⟩
  · split at h
    · rename_i xs ex
      obtain ⟨p, vs, rfl, q1, s1⟩ := titems_rv rv3 ex
      refine .inl (.inr ⟨p, vs, rfl, SqT.of (R3.sub _ _ q1).1, fun hw => ?_, fun _ p hp => new_tup R3 (cut_rvs s1 _ _) hp h kk3⟩)
      refine kk3.at R3 ?_ h
      have e : cutD xs l u = xs := by
        unfold cutD
        rw [← s1.length]
        rw [hw.1, hw.2, List.drop_zero, Nat.sub_zero, s1.length, List.take_length]
      rw [e]
      exact mkT_rv q1 s1
    · split at h
      · rename_i xs ex
        obtain ⟨p, vs, rfl, q1, s1⟩ := litems_rv R3 rv3 ex
        exact .inl (.inl ⟨p, vs, rfl, q1, fun p hp => new_lst R3 (cut_rvs s1 _ _) hp h kk3⟩)
      · exact h.elim
end
end DL
end
section
set_option Elab.async false
set_option linter.all false
set_option maxRecDepth 100000
set_option maxHeartbeats 4000000
namespace DL
open PySem L2 PyProof.Rows
variable [tB : Tb] [gR : Gr]
structure EndsD where
  nx : Env → Sto → Prop
  rt : DV → Sto → Prop
  bk : Env → Sto → Prop := fun _ _ => False
  ct : Env → Sto → Prop := fun _ _ => False
abbrev TDs := EndsD → Env → Sto → Prop
abbrev TDg := DV → Env → Sto → (Env → Sto → Prop) → Prop
abbrev TDgs := List DV → Env → Sto → (Env → Sto → Prop) → Prop
abbrev TDi := Env → Sto → (List DV → (Sto → Prop) → Sto → Prop) → Prop
def KE (K : PySem.W.Frag) (F H : Hp) (st : Sto) (Dn : Env → Sto → Prop) (N : L2.St → Hp → Prop) : Prop :=
  ∀ F' σ' H' ε' st', Step F H st F' H' st' → Rs K F' H' st' → RE K F' σ' ε' → Dn ε' st' → N σ' H'
structure KS (K : PySem.W.Frag) (F H : Hp) (st : Sto) (Dd : EndsD) (D : Ends) : Prop where
  nx : KE K F H st Dd.nx D.nx
  rt : Kg (RV K) K F H st Dd.rt D.rt
  bk : KE K F H st Dd.bk D.bk
  ct : KE K F H st Dd.ct D.ct
theorem KE.step {K : PySem.W.Frag} {F H F1 H1 : Hp} {st st1 : Sto} {Dn : Env → Sto → Prop} {N : L2.St → Hp → Prop} (k : KE K F H st Dn N) (t : Step F H st F1 H1 st1) : KE K F1 H1 st1 Dn N :=
  fun F' σ' H' ε' st' s R E q => k F' σ' H' ε' st' (t.trans s) R E q
theorem Kg.step {α β : Type} {rel : Hp → α → β → Prop} {K : PySem.W.Frag} {F H F1 H1 : Hp} {st st1 : Sto} {Qd : β → Sto → Prop} {Q : α → Hp → Prop} (k : Kg rel K F H st Qd Q) (t : Step F H st F1 H1 st1) : Kg rel K F1 H1 st1 Qd Q :=
  fun F' v H' x st' s R r q => k F' v H' x st' (t.trans s) R r q
theorem KS.step {K : PySem.W.Frag} {F H F1 H1 : Hp} {st st1 : Sto} {Dd : EndsD} {D : Ends} (k : KS K F H st Dd D) (t : Step F H st F1 H1 st1) : KS K F1 H1 st1 Dd D :=
  ⟨k.nx.step t, k.rt.step t, k.bk.step t, k.ct.step t⟩
theorem KE.at {K : PySem.W.Frag} {F H : Hp} {st : Sto} {σ : L2.St} {ε : Env} {Dn : Env → Sto → Prop} {N : L2.St → Hp → Prop} (k : KE K F H st Dn N) (R : Rs K F H st) (E : RE K F σ ε) (q : Dn ε st) : N σ H :=
  k F σ H ε st (Step.refl _ _ _) R E q
def SS (K : PySem.W.Frag) (ts : TS) (t : TDs) : Prop := ∀ F σ H ε st Dd D, Rs K F H st → RE K F σ ε → t Dd ε st → KS K F H st Dd D → ts D σ H
structure DS (X : Cx) (s : Stmt) (t : TDs) : Prop where
  ex : ∃ ts, PS X s ts ∧ SS X.K ts t
structure DSs (X : Cx) (s : List Stmt) (t : TDs) : Prop where
  ex : ∃ ts, PSs X s ts ∧ SS X.K ts t
structure DG (X : Cx) (tg : Expr) (ws : List Nat) (t : TDg) : Prop where
  ex : ∃ g, PG X tg g ∧ ∀ F σ H ε st v x Qd Q, Rs X.K F H st → RE X.K F σ ε → RV X.K F v x → t x ε st Qd →
    (∀ F' σ' H' ε' st', Step F H st F' H' st' → Rs X.K F' H' st' → RE X.K F' σ' ε' → (∀ vs : List Nat, (∀ i ∈ ws, i ∈ vs) → wipe σ' vs = wipe σ vs) → Qd ε' st' → Q σ' H') → g v σ H Q
structure DGs (X : Cx) (tg : List Expr) (ws : List Nat) (t : TDgs) : Prop where
  ex : ∃ g, PGs X tg g ∧ ∀ F σ H ε st v x Qd Q, Rs X.K F H st → RE X.K F σ ε → RVs X.K F v x → t x ε st Qd →
    (∀ F' σ' H' ε' st', Step F H st F' H' st' → Rs X.K F' H' st' → RE X.K F' σ' ε' → (∀ vs : List Nat, (∀ i ∈ ws, i ∈ vs) → wipe σ' vs = wipe σ vs) → Qd ε' st' → Q σ' H') → g v σ H Q
/-- what an iterator of these items does -/
def Src (K : PySem.W.Frag) (F0 : Hp) (J : It) (items : List DV) (inv : Sto → Prop) : Prop := ∀ F H st, (∀ a o, F0 a = some o → F a = some o) → Rs K F H st → inv st →
  (∀ i x, items[i]? = some x → J.go i H ∧ ∀ v H', J.yld i H v H' → ∃ F', Step F H st F' H' st ∧ Rs K F' H' st ∧ RV K F' v x) ∧ J.stop items.length H
structure DI (X : Cx) (tg iter : Expr) (t : TDi) : Prop where
  ex : ∃ wi, PI X tg iter wi ∧ ∀ F σ H ε st Qd R', Rs X.K F H st → RE X.K F σ ε → t ε st Qd →
    (∀ F' J H' items inv st', Step F H st F' H' st' → Rs X.K F' H' st' → Src X.K F' J items inv → Qd items inv st' → R' J H') → wi σ H R'
section
variable {P : Program} {w : World} {K : PySem.W.Frag} {mg : Str → Option Value} {base : Heap} {X : Cx} {N : List Str} {sc fs : Scope} {k : Nat}
def qSeq (t u : TDs) : TDs := fun D ε st => t { D with nx := u D } ε st
def qNext : TDs := fun D ε st => D.nx ε st
theorem ds_nil : DSs X [] qNext := ⟨⟨_, pss_nil, fun F σ H ε st Dd D R E h kk => kk.nx.at R E h⟩⟩
theorem ds_cons {s : Stmt} {r : List Stmt} {t u : TDs} (h : DS X s t) (hr : DSs X r u) : DSs X (s :: r) (qSeq t u) := by
  obtain ⟨ts, p, a⟩ := h
  obtain ⟨us, q, b⟩ := hr
  refine ⟨⟨_, pss_cons p q, fun F σ H ε st Dd D R E h kk => ?_⟩⟩
  exact a F σ H ε st _ _ R E h ⟨fun F' σ' H' ε' st' s R' E' q => b F' σ' H' ε' st' _ _ R' E' q (kk.step s), kk.rt, kk.bk, kk.ct⟩
theorem ds_one {s : Stmt} {t : TDs} (h : DS X s t) : DSs X [s] t := let ⟨ts, p, a⟩ := h.ex; ⟨⟨ts, pss_one p, a⟩⟩
def qNever : TDs := fun _ _ _ => False
theorem ds_never {s : Stmt} : DS X s qNever := ⟨⟨_, ps_never, fun F σ H ε st Dd D R E h kk => h.elim⟩⟩
def qDrop (te : TD) : TDs := fun D ε st => te ε st fun _ s1 => D.nx ε s1
theorem ds_expr {e : Expr} {te : TD} {pos : Pos} (h : DE X e te) (hs : swapsWith e none pos.line X.env = pure false := by rfl) : DS X (.Expr e pos) (qDrop te) := by
  obtain ⟨t1, p, a⟩ := h
  refine ⟨⟨_, ps_expr p hs, fun F σ H ε st Dd D R E h kk => ?_⟩⟩
  exact a F σ H ε st _ _ R E h fun F' v H' x st' s R' r q => kk.nx F' σ H' ε st' s R' (E.mono s.ex) q
def qRet (te : TD) : TDs := fun D ε st => te ε st D.rt
theorem ds_ret {e : Expr} {te : TD} {pos : Pos} (h : DE X e te) : DS X (.Return (some e) pos) (qRet te) := by
  obtain ⟨t1, p, a⟩ := h
  exact ⟨⟨_, ps_ret p, fun F σ H ε st Dd D R E h kk => a F σ H ε st _ _ R E h kk.rt⟩⟩
def qRetN : TDs := fun D _ st => D.rt (.d .none) st
def qIfS (c : TDt) (t u : TDs) : TDs := fun D ε st => c ε st fun b s1 => if b = true then t D ε s1 else u D ε s1
theorem ds_if {c : Expr} {a b : List Stmt} {pos : Pos} {tc : TDt} {t u : TDs} (hc : DT X c tc) (ha : DSs X a t) (hb : DSs X b u) : DS X (.If c a b pos) (qIfS tc t u) := by
  obtain ⟨t0, p0, a0⟩ := hc
  obtain ⟨t1, p1, a1⟩ := ha
  obtain ⟨t2, p2, a2⟩ := hb
  refine ⟨⟨_, ps_if p0 p1 p2, fun F σ H ε st Dd D R E h kk => ?_⟩⟩
  refine a0 F σ H ε st _ _ R E h fun F' v H' x st' s R' r q => ?_
  cases r
  cases v with
  | true => exact a1 F' σ H' ε st' _ _ R' (E.mono s.ex) q (kk.step s)
  | false => exact a2 F' σ H' ε st' _ _ R' (E.mono s.ex) q (kk.step s)
theorem wipe_set {σ : L2.St} {i : Nat} {v : Option V} : ∀ {vs : List Nat}, i ∈ vs → wipe (σ.set i v) vs = wipe σ vs := by
  have comm : ∀ {vs : List Nat} {i : Nat} {σ : L2.St} {v : Option V}, i ∉ vs → wipe (σ.set i v) vs = (wipe σ vs).set i v := by
    intro vs
    induction vs with
    | nil => intros; rfl
    | cons j vs ih =>
      intro i σ v h
      have h1 : i ≠ j := fun e => h (by rw [e]; exact List.mem_cons_self)
      have h2 : i ∉ vs := fun e => h (List.mem_cons_of_mem _ e)
      show (wipe (σ.set i v) vs).set j none = ((wipe σ vs).set j none).set i v
      rw [ih h2, List.set_comm _ _ h1]
  intro vs
  induction vs with
  | nil => intro h; cases h
  | cons j vs ih =>
    intro h
    show (wipe (σ.set i v) vs).set j none = (wipe σ vs).set j none
    by_cases e : i ∈ vs
    · rw [ih e]
    · have e2 : i = j := by
        rcases List.mem_cons.mp h with q | q
        · exact q
        · exact absurd q e
      rw [comm e, ← e2, List.set_set]
def qgN (i : Nat) : TDg := fun x ε st Q => Q (ε.set i (some x)) st
theorem loc_of {i : Nat} {x : Str} (c : Cok P w K mg base X N sc fs k) (h : locB N sc fs i x = true) : X.N[i]? = some x ∧ L2.Loc X.env.scope x ∧ (X.fn x = true ∨ X.env.scope.names.lookup x = some .local) := by
  unfold locB at h
  simp only [Bool.and_eq_true, decide_eq_true_eq] at h
  obtain ⟨h1, h2⟩ := h
  refine ⟨by rw [c.hN]; exact h1, ?_, ?_⟩
  · unfold L2.Loc
    rw [c.hs]
    split at h2 <;> first | exact .inl (by assumption) | exact .inr (by assumption) | cases h2
  · rw [c.hs]
    split at h2
    · exact .inr (by assumption)
    · split at h2
      · exact .inl (c.fn _ (by assumption))
      · cases h2
    · cases h2
theorem dg_name {i : Nat} {x : Str} {pos : Pos} (c : Cok P w K mg base X N sc fs k) (h : locB N sc fs i x = true) : DG X (.Name x pos) [i] (qgN i) := by
  obtain ⟨h1, h2, h3⟩ := loc_of c h
  refine ⟨⟨gName i, pg_name (by rw [c.hN]; exact c.nd) h1 h2 h3, fun F σ H ε st v x Qd Q R E r q kk => ?_⟩⟩
  exact kk F _ H _ st (Step.refl _ _ _) R (E.set r i) (fun vs hv => wipe_set (hv i (by simp))) q
def qgNil : TDgs := fun vs ε st Q => vs = [] ∧ Q ε st
def qgCons (t : TDg) (u : TDgs) : TDgs := fun vs ε st Q => match vs with | [] => False | v :: r => t v ε st fun ε' s' => u r ε' s' Q
theorem dgs_nil : DGs X [] [] qgNil := ⟨⟨_, pgs_nil, fun F σ H ε st v x Qd Q R E r ⟨e, q⟩ kk => by
  subst e
  cases r
  exact ⟨rfl, kk F σ H ε st (Step.refl _ _ _) R E (fun _ _ => rfl) q⟩⟩⟩
theorem dgs_cons {e : Expr} {es : List Expr} {w1 w2 : List Nat} {t : TDg} {u : TDgs} (h : DG X e w1 t) (hr : DGs X es w2 u)
    (hs : (assignEach (e :: es) X.env).map (·.2) = assign e X.env :: (assignEach es X.env).map (·.2) := by rfl) : DGs X (e :: es) (w1 ++ w2) (qgCons t u) := by
  obtain ⟨g, p, a⟩ := h
  obtain ⟨gs, q, b⟩ := hr
  refine ⟨⟨_, pgs_cons p q hs, fun F σ H ε st v x Qd Q R E r h kk => ?_⟩⟩
  cases r with
  | nil => exact h.elim
  | cons r rr =>
    refine ⟨_, _, rfl, a F σ H ε st _ _ _ _ R E r h fun F1 σ1 H1 ε1 st1 s1 R1 E1 w1' h1 => ?_⟩
    exact b F1 σ1 H1 ε1 st1 _ _ _ _ R1 E1 (rr.mono s1.ex) h1 fun F2 σ2 H2 ε2 st2 s2 R2 E2 w2' h2 =>
      kk F2 σ2 H2 ε2 st2 (s1.trans s2) R2 E2 (fun vs hv => (w2' vs fun i hi => hv i (List.mem_append_right _ hi)).trans (w1' vs fun i hi => hv i (List.mem_append_left _ hi))) h2
def qgT (n : Nat) (t : TDgs) : TDg := fun x ε st Q => match titems x with | some xs => xs.length = n ∧ t xs ε st Q | none => False
theorem dg_tup {es : List Expr} {j : Nat} {pos : Pos} {ws : List Nat} {n : Nat} {t : TDgs} (c : Cok P w K mg base X N sc fs k) (h : DGs X es ws t) (hn : (assignEach es X.env).length = n := by rfl) (hst : (assignEach es X.env).findIdx? (·.1) = none := by rfl) : DG X (.Tuple es j pos) ws (qgT n t) := by
  obtain ⟨g, p, a⟩ := h
  refine ⟨⟨_, pg_tup c.calm p hn hst, fun F σ H ε st v x Qd Q R E r h kk => ?_⟩⟩
  unfold qgT at h
  split at h
  · rename_i xs ex
    obtain ⟨b, vs, rfl, q1, s1⟩ := titems_rv r ex
    exact ⟨b, vs, rfl, SqT.of (R.sub _ _ q1).1, s1.length.trans h.1, a F σ H ε st vs xs Qd Q R E s1 h.2 kk⟩
  · exact h.elim
def qAsg (te : TD) (g : TDg) : TDs := fun D ε st => te ε st fun x s1 => g x ε s1 D.nx
/-- an environment that bears a scope alone, for the looks at stores -/
def envS (sc : Scope) : PySem.Env := { scope := sc, locals := 0, globals := 0, cells := [], qual := Str.empty, func := none, code := .none, frame := none, builtins := 0 }
theorem kindOf_S (c : Cok P w K mg base X N sc fs k) : ∀ x, X.env.kindOf x = (envS sc).kindOf x := fun x => by
  unfold PySem.Env.kindOf
  rw [c.hs]
  rfl
theorem blockKind_S (c : Cok P w K mg base X N sc fs k) : X.env.blockKind = (envS sc).blockKind := by
  unfold PySem.Env.blockKind
  rw [c.hs]
  rfl
theorem swapped_S (c : Cok P w K mg base X N sc fs k) (ts : List Expr) (v : Expr) : swappedStores ts v X.env = swappedStores ts v (envS sc) := by
  unfold swappedStores
  simp only [kindOf_S c, blockKind_S c]
theorem swaps_S (c : Cok P w K mg base X N sc fs k) (v : Expr) (t : Option Expr) (l : Nat) : swapsWith v t l X.env = swapsWith v t l (envS sc) := by
  unfold swapsWith
  simp only [kindOf_S c, blockKind_S c, c.hs]
  rfl
theorem swapsS_S (c : Cok P w K mg base X N sc fs k) (ts : List Expr) (v : Expr) (l : Nat) : swapsWithSole ts v l X.env = swapsWithSole ts v l (envS sc) := by
  unfold swapsWithSole
  split
  · exact swaps_S c _ _ _
  · rfl
theorem ds_asg {tg e : Expr} {pos : Pos} {ws : List Nat} {te : TD} {g : TDg} (c : Cok P w K mg base X N sc fs k) (he : DE X e te) (hg : DG X tg ws g) (hs : swapsWithSole [tg] e pos.line (envS sc) = pure false) (hw : swappedStores [tg] e (envS sc) = pure none) (h1 : (assignEach [tg] X.env).map (·.2) = [assign tg X.env] := by rfl) : DS X (.Assign [tg] e pos) (qAsg te g) := by
  obtain ⟨t1, p1, a1⟩ := he
  obtain ⟨t2, p2, a2⟩ := hg
  refine ⟨⟨_, ps_asg p1 p2 ((swapsS_S c _ _ _).trans hs) ((swapped_S c _ _).trans hw) h1, fun F σ H ε st Dd D R E h kk => ?_⟩⟩
  refine a1 F σ H ε st _ _ R E h fun F1 v H1 x st1 s1 R1 r q => ?_
  exact a2 F1 σ H1 ε st1 v x _ _ R1 (E.mono s1.ex) r q fun F2 σ2 H2 ε2 st2 s2 R2 E2 _ q2 => kk.nx F2 σ2 H2 ε2 st2 (s1.trans s2) R2 E2 q2
/-- a, b = x, y stored from the right -/
def qPar (i j : Nat) (ta : TDa) : TDs := fun D ε st => ta ε st fun xs s1 => match xs with | [x, y] => D.nx ((ε.set i (some x)).set j (some y)) s1 | _ => False
def parB (N : List Str) (sc : Scope) (i j : Nat) (x y : Str) : Bool := decide (N[i]? = some x) && decide (N[j]? = some y) && decide (i ≠ j) && decide (sc.names.lookup x = some .local) && decide (sc.names.lookup y = some .local)
theorem ds_par {i j : Nat} {x y : Str} {a b : Expr} {ta : TDa} {px py pt pos : Pos} {kt k2 pt2} (c : Cok P w K mg base X N sc fs k) (hb : parB N sc i j x y = true) (ha : DA X [a, b] ta)
    (hw : swappedStores [.Tuple [.Name x px, .Name y py] kt pt] (.Tuple [a, b] k2 pt2) (envS sc) = pure (some [x, y])) :
    DS X (.Assign [.Tuple [.Name x px, .Name y py] kt pt] (.Tuple [a, b] k2 pt2) pos) (qPar i j ta) := by
  unfold parB at hb
  simp only [Bool.and_eq_true, decide_eq_true_eq] at hb
  obtain ⟨⟨⟨⟨h1, h2⟩, h3⟩, h4⟩, h5⟩ := hb
  obtain ⟨t1, p1, a1⟩ := ha
  refine ⟨⟨_, ps_par c.calm (by rw [c.hN]; exact c.nd) (by rw [c.hN]; exact h1) (by rw [c.hN]; exact h2) h3 (by rw [c.hs]; exact h4) (by rw [c.hs]; exact h5) p1 ((swapped_S c _ _).trans hw), fun F σ H ε st Dd D R E h kk => ?_⟩⟩
  refine a1 F σ H ε st _ _ R E h fun F1 v H1 x st1 s1 R1 r q => ?_
  split at q
  · cases r with
    | cons r1 r =>
      cases r with
      | cons r2 r =>
        cases r
        exact ⟨_, _, rfl, kk.nx F1 _ H1 _ st1 s1 R1 (((E.mono s1.ex).set r1 i).set r2 j) q⟩
  · exact q.elim
def qPar3 (i j l : Nat) (ta : TDa) : TDs := fun D ε st => ta ε st fun xs s1 => match xs with | [x, y, z] => D.nx (((ε.set i (some x)).set j (some y)).set l (some z)) s1 | _ => False
/-- name op= e, ints -/
def qAug (i : Nat) (te : TD) (g : Int → Int → Int) : TDs := fun D ε st => match ε[i]? with
  | some (some (.d (.int a))) => te ε st fun y s1 => (match y with | .d (.int b) => D.nx (ε.set i (some (.d (.int (g a b))))) s1 | _ => False)
  | _ => False
def qLoop (inv : Sto → Prop) (g : TDg) (tb : TDs) (D : EndsD) : List DV → Env → Sto → Prop
  | [], ε, st => inv st ∧ D.nx ε st
  | x :: r, ε, st => inv st ∧ g x ε st fun ε1 s1 => tb { D with nx := qLoop inv g tb D r, ct := qLoop inv g tb D r, bk := D.nx } ε1 s1
def qFor (ti : TDi) (g : TDg) (tb : TDs) : TDs := fun D ε st => ti ε st fun items inv s1 => qLoop inv g tb D items ε s1
theorem qLoop_inv {inv : Sto → Prop} {g : TDg} {tb : TDs} {D : EndsD} {l : List DV} {ε : Env} {st : Sto} (h : qLoop inv g tb D l ε st) : inv st := by
  cases l with
  | nil => exact h.1
  | cons x r => exact h.1
theorem ds_for {tg iter : Expr} {body : List Stmt} {pos : Pos} {ws : List Nat} {ti : TDi} {g : TDg} {tb : TDs} (c : Cok P w K mg base X N sc fs k) (hi : DI X tg iter ti) (hg : DG X tg ws g) (hb : DSs X body tb) (hs : ∀ x, foldedSetIterable iter X.env x = pure x := by intro _; rfl) : DS X (.For tg iter body [] pos) (qFor ti g tb) := by
  obtain ⟨wi, p0, a0⟩ := hi
  obtain ⟨gg, p1, a1⟩ := hg
  obtain ⟨ts, p2, a2⟩ := hb
  refine ⟨⟨_, ps_for c.pass c.calm p0 p1 p2 hs, fun F σ H ε st Dd D R E h kk => ?_⟩⟩
  refine a0 F σ H ε st _ _ R E h fun F1 J H1 items inv st1 s1 R1 src q => ?_
  refine ⟨fun i m σ' H' => i ≤ items.length ∧ m = items.length - i ∧ ∃ F' ε' st', Step F1 H1 st1 F' H' st' ∧ Rs X.K F' H' st' ∧ RE X.K F' σ' ε' ∧ qLoop inv g tb Dd (items.drop i) ε' st',
    ⟨items.length, Nat.zero_le _, by omega, F1, ε, st1, Step.refl _ _ _, R1, E.mono s1.ex, by rw [List.drop_zero]; exact q⟩, ?_⟩
  rintro i m σ' H' ⟨hi, rfl, F2, ε2, st2, s2, R2, E2, q2⟩
  have iv := qLoop_inv q2
  obtain ⟨src1, src2⟩ := src F2 H' st2 s2.ex R2 iv
  have s12 := s1.trans s2
  by_cases hlt : i < items.length
  · have ed : items.drop i = items[i] :: items.drop (i + 1) := List.drop_eq_getElem_cons hlt
    rw [ed] at q2
    obtain ⟨go, yl⟩ := src1 i items[i] (List.getElem?_eq_getElem hlt)
    refine .inr ⟨go, fun σ' H' => ∃ F' ε' st', Step F1 H1 st1 F' H' st' ∧ Rs X.K F' H' st' ∧ RE X.K F' σ' ε' ∧ qLoop inv g tb Dd (items.drop (i + 1)) ε' st', fun σ3 H3 q3 => ⟨items.length - (i + 1), by omega, hlt, rfl, q3⟩, fun v H3 y => ?_⟩
    obtain ⟨F3, s3, R3, r3⟩ := yl v H3 y
    refine a1 F3 σ' H3 ε2 st2 v items[i] _ _ R3 (E2.mono s3.ex) r3 q2.2 fun F4 σ4 H4 ε4 st4 s4 R4 E4 _ q4 => ?_
    have s24 := s2.trans (s3.trans s4)
    refine a2 F4 σ4 H4 ε4 st4 _ _ R4 E4 q4 ⟨?_, (kk.step (s1.trans s24)).rt, (kk.step (s1.trans s24)).nx, ?_⟩
    · exact fun F5 σ5 H5 ε5 st5 s5 R5 E5 q5 => ⟨F5, ε5, st5, s24.trans s5, R5, E5, q5⟩
    · exact fun F5 σ5 H5 ε5 st5 s5 R5 E5 q5 => ⟨F5, ε5, st5, s24.trans s5, R5, E5, q5⟩
  · have e : i = items.length := by omega
    subst e
    rw [List.drop_length] at q2
    exact .inl ⟨src2, kk.nx F2 σ' H' ε2 st2 s12 R2 E2 q2.2⟩
theorem Step.hid {F H F' H' : Hp} {st st' : Sto} {p : Addr} {o : HO} (s : Step F H st F' H' st') (h : H p = some o) (f : F p = none) (e : st p = none) (ht : ∀ ts, o ≠ .tup ts := by intro _ z; cases z) (hn : NoTb o := by intro _ z; cases z) : H' p = some o ∧ F' p = none ∧ st' p = none := by
  obtain ⟨h1, h2⟩ := s.pres p o h hn e
  refine ⟨h1, ?_, h2⟩
  cases q : F' p with
  | none => rfl
  | some u =>
    rcases s.fnew p u q with z | z | z | ⟨ts, z⟩ | ⟨ps, z⟩
    · exact absurd f z
    · rw [h] at z; cases z
    · exact absurd e z
    · rw [h] at z
      cases z
      exact absurd rfl (ht ts)
    · rw [h] at z
      cases z
      exact absurd rfl (hn ps)
/-- a hidden list comes into sight -/
theorem seen_lst {F0 H0 F H : Hp} {st0 st : Sto} {p : Addr} {vs : List V} {xs : List DV} {m : Bool} {Qd : DV → Sto → Prop} {Q : VK} (R0 : Rs K F0 H0 st0) (s : Step F0 H0 st0 F H st) (h0 : H0 p = none) (R : Rs K F H st) (hp : H p = some (.lst vs)) (f : F p = none) (e : st p = none) (r : RVs K F vs xs)
    (q : newL m xs st Qd) (kk : Kg (RV K) K F0 H0 st0 Qd Q) : Q (.ref p) H := by
  cases m with
  | true =>
    have ss : Step F0 H0 st0 F H (up st p (.lst xs)) := s.seen h0
    refine kk F (.ref p) H (.r p) (up st p (.lst xs)) ss (R0.by ⟨fun a u ha => ?_, fun a m ha => ?_, R.tb.up hp⟩ ss) (.r p) (q p e)
    · rw [up_ne (fun z => by rw [z, f] at ha; cases ha)]; exact R.sub a u ha
    · by_cases z : a = p
      · subst z; rw [up_same] at ha; cases ha; exact ⟨vs, hp, r⟩
      · rw [up_ne z] at ha; exact R.ok a m ha
  | false =>
    unfold newL at q
    simp only at q
    split at q
    rotate_left
    · exact q.elim
    rename_i ds ed
    have ed2 := datas_eq ed
    subst ed2
    have ex : ∀ a o, F a = some o → upd F p (.lst vs) a = some o := fun a o ha => by rw [upd_ne (fun z => by rw [z, f] at ha; cases ha)]; exact ha
    have ss : Step F0 H0 st0 (upd F p (.lst vs)) H st := ⟨fun a o ha => ex a o (s.ex a o ha), s.pres, fun a u ha => by
      by_cases z : a = p
      · subst z; exact .inr (.inl h0)
      · rw [upd_ne z] at ha; exact s.fnew a u ha⟩
    refine kk (upd F p (.lst vs)) (.ref p) H (.d (.list ds)) st ss (R0.by ⟨fun a u ha => ?_, fun a m ha => MOk.mono ex rfl (R.ok a m ha), R.tb.see hp⟩ ss) (.d (.lst (SqL.of upd_same) (r.mono ex).all)) q
    · by_cases z : a = p
      · subst z; rw [upd_same] at ha; cases ha; exact ⟨hp, e⟩
      · rw [upd_ne z] at ha; exact R.sub a u ha
def qComp (inv : Sto → Prop) (g : TDg) (tt : TDt) (te : TD) (ε : Env) (Kc : List DV → Sto → Prop) : List DV → List DV → Sto → Prop
  | [], acc, st => inv st ∧ Kc acc st
  | x :: r, acc, st => inv st ∧ g x ε st fun ε1 s1 => tt ε1 s1 fun b s2 => if b = true then te ε1 s2 fun y s3 => qComp inv g tt te ε Kc r (acc ++ [y]) s3 else qComp inv g tt te ε Kc r acc s2
theorem qComp_inv {inv : Sto → Prop} {g : TDg} {tt : TDt} {te : TD} {ε : Env} {Kc : List DV → Sto → Prop} {l acc : List DV} {st : Sto} (h : qComp inv g tt te ε Kc l acc st) : inv st := by
  cases l with
  | nil => exact h.1
  | cons x r => exact h.1
def qLc (m : Bool) (ti : TDi) (g : TDg) (tt : TDt) (te : TD) (vs : List Nat) : TD := fun ε st Q => ti ε st fun items inv s1 => items.length ≤ sizeLine ∧ qComp inv g tt te (wipeD ε vs) (fun acc s2 => newL m acc s2 Q) items [] s1
structure DTs (X : Cx) (ifs : List Expr) (t : TDt) : Prop where
  ex : ∃ te, PTs X ifs te ∧ Sg relT X.K te t
def qYes : TDt := fun _ st Q => Q true st
theorem dts_nil : DTs X [] qYes := ⟨⟨_, pts_nil, fun F σ H ε st Qd Q R E h kk => kk.at R rfl h⟩⟩
theorem dts_one {e : Expr} {t : TDt} (h : DT X e t) : DTs X [e] t := let ⟨te, p, a⟩ := h.ex; ⟨⟨te, pts_one p, a⟩⟩
theorem Cok.blk (c : Cok P w K mg base X N sc fs k) {scope : Scope} (hk : scope.kind = .function) (s : Shared) (H : Hp) (C : Addr) (cl : List (Str × Addr)) (fp : List Addr) :
    Cok P w K mg base (X.blk s H scope (compEnvC scope cl C X.env) fp) N (relS scope sc) scope k where
  hP := c.hP
  hw := c.hw
  hK := c.hK
  hmg := c.hmg
  hb := c.hb
  hN := c.hN
  nd := c.nd
  kind := hk
  hs := by
    show relabel scope X.env = relS scope sc
    have e := c.hs
    unfold relabel relS PySem.Env.kindOf
    rw [e]
  calm := c.calm
  fn := fun x h => by
    show (scope.names.lookup x == some NameKind.cell) = true
    rw [h]
    rfl
  room := c.room
  pass := fun _ _ h => h.elim
theorem comp_sim {wi : TI} {g : TG} {tt : TT} {te : TE} {ti : TDi} {gd : TDg} {ttd : TDt} {ted : TD} {m : Bool} {vs ws : List Nat} (hv : ∀ i ∈ ws, i ∈ vs)
    (a0 : ∀ F σ H ε st Qd R', Rs K F H st → RE K F σ ε → ti ε st Qd → (∀ F' J H' items inv st', Step F H st F' H' st' → Rs K F' H' st' → Src K F' J items inv → Qd items inv st' → R' J H') → wi σ H R')
    (a1 : ∀ F σ H ε st v x Qd Q, Rs K F H st → RE K F σ ε → RV K F v x → gd x ε st Qd → (∀ F' σ' H' ε' st', Step F H st F' H' st' → Rs K F' H' st' → RE K F' σ' ε' → (∀ vs : List Nat, (∀ i ∈ ws, i ∈ vs) → wipe σ' vs = wipe σ vs) → Qd ε' st' → Q σ' H') → g v σ H Q)
    (a2 : Sg relT K tt ttd) (a3 : Sg (RV K) K te ted) : Sg (RV K) K (tLc wi g tt te vs) (qLc m ti gd ttd ted vs) := by
  intro F σ H ε st Qd Q R E h kk
  refine a0 F σ H ε st _ _ R E h fun F1 J H1 items inv st1 s1 R1 src q => ?_
  intro D hD
  obtain ⟨hsz, q⟩ := q
  obtain ⟨f0, d0⟩ := R1.free hD
  obtain ⟨R1', s1'⟩ := R1.hide (o := .lst []) hD
  refine ⟨fun i mm H' => i ≤ items.length ∧ mm = items.length - i ∧ ∃ F' st' acc accD, Step F1 H1 st1 F' H' st' ∧ Rs K F' H' st' ∧ H' D = some (.lst acc) ∧ F' D = none ∧ st' D = none ∧ RVs K F' acc accD ∧ acc.length ≤ i ∧ qComp inv gd ttd ted (wipeD ε vs) (fun acc s2 => newL m acc s2 Qd) (items.drop i) accD st',
    ⟨items.length, Nat.zero_le _, by omega, F1, st1, [], [], s1', R1', upd_same, f0, d0, .nil, Nat.le_refl _, by rw [List.drop_zero]; exact q⟩, ?_⟩
  rintro i mm H2 ⟨hi, rfl, F2, st2, acc, accD, s2, R2, hD2, f2, d2, r2, hl, q2⟩
  have iv := qComp_inv q2
  obtain ⟨src1, src2⟩ := src F2 H2 st2 s2.ex R2 iv
  by_cases hlt : i < items.length
  · have ed : items.drop i = items[i] :: items.drop (i + 1) := List.drop_eq_getElem_cons hlt
    rw [ed] at q2
    obtain ⟨go, yl⟩ := src1 i items[i] (List.getElem?_eq_getElem hlt)
    refine .inr ⟨go, fun H' => ∃ F' st' acc accD, Step F1 H1 st1 F' H' st' ∧ Rs K F' H' st' ∧ H' D = some (.lst acc) ∧ F' D = none ∧ st' D = none ∧ RVs K F' acc accD ∧ acc.length ≤ i + 1 ∧ qComp inv gd ttd ted (wipeD ε vs) (fun acc s2 => newL m acc s2 Qd) (items.drop (i + 1)) accD st',
      fun H' q' => ⟨items.length - (i + 1), by omega, hlt, rfl, q'⟩, fun v H3 y => ?_⟩
    obtain ⟨F3, s3, R3, r3⟩ := yl v H3 y
    have E3 : RE K F3 (wipe σ vs) (wipeD ε vs) := (E.mono (s1.trans (s2.trans s3)).ex).wipe vs
    refine a1 F3 _ H3 _ st2 v items[i] _ _ R3 E3 r3 q2.2 fun F4 σ4 H4 ε4 st4 s4 R4 E4 w4 q4 => ?_
    refine ⟨(w4 vs hv).trans (wipe_idem σ vs), ?_⟩
    refine a2 F4 σ4 H4 ε4 st4 _ _ R4 E4 q4 fun F5 b H5 b' st5 s5 R5 rb q5 => ?_
    cases rb
    have s25 := s2.trans (s3.trans (s4.trans s5))
    obtain ⟨hD5, f5, d5⟩ := (s3.trans (s4.trans s5)).hid hD2 f2 d2
    cases b with
    | true =>
      refine a3 F5 σ4 H5 ε4 st5 _ _ R5 (E4.mono s5.ex) q5 fun F6 y H6 y' st6 s6 R6 ry q6 => ?_
      obtain ⟨hD6, f6, d6⟩ := s6.hid hD5 f5 d5
      refine ⟨acc, hD6, by omega, F6, st6, acc ++ [y], accD ++ [y'], (s25.trans s6).hput hD, R6.hput f6 d6 hD6 R1 (s25.trans s6) hD, upd_same, f6, d6, (r2.mono ((s3.trans (s4.trans s5)).trans s6).ex).append (.cons ry .nil), by rw [List.length_append]; simp only [List.length_singleton]; omega, q6⟩
    | false => exact ⟨F5, st5, acc, accD, s25, R5, hD5, f5, d5, r2.mono (s3.trans (s4.trans s5)).ex, by omega, q5⟩
  · have e : i = items.length := by omega
    subst e
    rw [List.drop_length] at q2
    exact .inl ⟨src2, seen_lst R1 s2 hD R2 hD2 f2 d2 r2 q2.2 (kk.step s1)⟩
where
  wipe_idem (σ : L2.St) (vs : List Nat) : wipe (wipe σ vs) vs = wipe σ vs := by
    have h : ∀ us : List Nat, (∀ i ∈ us, i ∈ vs) → wipe (wipe σ us) vs = wipe σ vs := by
      intro us
      induction us with
      | nil => intro _; rfl
      | cons j us ih =>
        intro hu
        show wipe ((wipe σ us).set j none) vs = _
        rw [wipe_set (hu j List.mem_cons_self)]
        exact ih fun i hi => hu i (List.mem_cons_of_mem _ hi)
    exact h vs fun _ z => z
end
end DL
end
section
set_option Elab.async false
set_option linter.all false
set_option maxRecDepth 100000
set_option maxHeartbeats 4000000
namespace DLM
open PySem PySem.Spec
open AutoSeq1 (wpAny_loadPart')
theorem meets_enumerate_newT (l : Addr) (items : Array Value) (n : Nat) (dct : Option Addr) (sl : Array (Option Value)) :
    Meets (Builtin.«enumerate.__new__» ⟨[.type "enumerate", .ref l], []⟩) (fun _ R s => s.heap.get? l = some { cls := .type "tuple", dict := dct, data := .seq items n, slots := sl } ∧
      R (.ok (.ret (.ref (s.heap.push { cls := .type "tuple_iterator", data := .fields #[.ref l, .int 0 0] }).objs.size)))
        { s with heap := (s.heap.push { cls := .type "tuple_iterator", data := .fields #[.ref l, .int 0 0] }).push { cls := .type "enumerate", data := .fields #[.none, .bool false, .ref s.heap.objs.size, rawInt 0, .none, .none] } }) :=
  .of_wp fun prog w A R s h => by
    obtain ⟨hp, g, d, tk, os⟩ := s; obtain ⟨hl, h⟩ := h
    have hsub := sub_enumerate
    have hL : Heap.IsTuple (Shared.heap ⟨hp, g, d, tk, os⟩) l items := ⟨_, hl, rfl, n, rfl⟩
    wp_walk using wpAny_loadPart' hl
    refine wpAny_stack_any fun st => wpAny_pure ?_
    split
    · rename_i c _ _ _ _ _
      cases (c == Value.type "enumerate")
      · wp_walk using wpAny_loadPart' hl, wpAny_pyIter_tuple hL
        exact ⟨_, rfl, h⟩
      · wp_walk using wpAny_loadPart' hl, wpAny_pyIter_tuple hL
        exact ⟨_, rfl, h⟩
    · wp_walk using wpAny_loadPart' hl, wpAny_pyIter_tuple hL
      exact ⟨_, rfl, h⟩
section
variable {prog : Program} {w : World} {A : Around} {E : Value → Shared → Prop} {s : Shared}
theorem call_enumerate_tuple {l : Addr} {items : Array Value} {Q : Value → Shared → Prop} (hL : s.heap.IsTuple l items)
    (h : ∀ h', IsEnum h' (s.heap.objs.size + 1) s.heap.objs.size 0 .none → h'.IsTupleIter s.heap.objs.size l 0 → h'.objs.size = s.heap.objs.size + 2 →
      (∀ b o, s.heap.get? b = some o → h'.get? b = some o) → Q (.ref (s.heap.objs.size + 1)) { s with heap := h' }) :
    wpAny (model prog w) A (call (.type "enumerate") [.ref l]) Q E s := by
  obtain ⟨⟨c, dct, dt, sl⟩, hl, hc, n, hd⟩ := hL
  replace hc : c = .type "tuple" := hc
  replace hd : dt = .seq items n := hd
  subst hc hd
  refine callType_new F.called_enumerate (by decide) (F.typeCall_enumerate_1 _) (F.newCall_enumerate_1 _) (fun obj => F.args_object_init_2 obj _) F.entry_enumerate_new
    (meets_enumerate_newT l items n dct sl) ⟨hl, ?_⟩
  have hz : (s.heap.push { cls := .type "tuple_iterator", data := .fields #[.ref l, .int 0 0] }).objs.size = s.heap.objs.size + 1 := Heap.size_push ..
  show _ ∧ _
  rw [hz]
  have he : IsEnum ((s.heap.push { cls := .type "tuple_iterator", data := .fields #[.ref l, .int 0 0] }).push
      { cls := .type "enumerate", data := .fields #[.none, .bool false, .ref s.heap.objs.size, rawInt 0, .none, .none] }) (s.heap.objs.size + 1) s.heap.objs.size 0 .none := by
    have := Heap.get?_push_size (s.heap.push { cls := .type "tuple_iterator", data := .fields #[.ref l, .int 0 0] })
      (o := { cls := .type "enumerate", data := .fields #[.none, .bool false, .ref s.heap.objs.size, rawInt 0, .none, .none] }) rfl
    rw [hz] at this; exact this
  refine ⟨⟨_, he, rfl⟩, h _ he ⟨_, Heap.get?_push_of_some _ (Heap.get?_push_size _ rfl), rfl, rfl⟩ (by rw [Heap.size_push, hz]) fun b o x => Heap.get?_push_of_some _ (Heap.get?_push_of_some _ x)⟩
end
end DLM
namespace L2
open PySem PySem.Spec PyProof.Rows
def IteT (K : PySem.W.Frag) (a : Addr) : It :=
  ⟨fun i H => ∃ (xs : List V) (x : V), SqT K H a xs ∧ xs[i]? = some x, fun i H v H' => ∃ T x, v = .ref T ∧ H T = none ∧ H' = upd H T (.tup [.int (i : Nat), x]) ∧ ∀ xs, SqT K H a xs → xs[i]? = some x, fun i H => ∃ xs : List V, SqT K H a xs ∧ xs.length ≤ i⟩
theorem turn_enumT {P : Program} {w : World} {K : PySem.W.Frag} {elts : List Expr} {kk : Nat} {tpos : Pos} (a e it : Addr) :
    Turn P w K (.Tuple elts kk tpos) (IteT K a) [e, it] e (fun i h => (∃ old, IsEnum h e it ((i : Nat) : Int) old) ∧ h.IsTupleIter it a i ∧ e ≠ it) where
  mem := by simp
  obj := fun i h st b hb => by
    obtain ⟨⟨old, he⟩, ⟨o, ho, hc, hd⟩, _⟩ := st
    have e' : b = e ∨ b = it := by simpa using hb
    rcases e' with z | z
    · rw [z]; exact ⟨_, he, fun v q => nomatch q⟩
    · rw [z]; exact ⟨o, ho, fun v q => by rw [hd] at q; cases q⟩
  keep := fun i h h' st k => let ⟨⟨old, he⟩, hi, hne⟩ := st; ⟨⟨old, k e (by simp) _ he⟩, hi.at fun o q => k it (by simp) o q, hne⟩
  item := by
    intro X hP hw hK hc i pins s σ H E I hf st hg
    subst hP hw hK
    obtain ⟨⟨old, he⟩, hit, hne⟩ := st
    obtain ⟨xs, x, hq, hx⟩ := hg
    obtain ⟨its, rv, p, hz⟩ := I.tuple hq
    obtain ⟨u, hu, ru⟩ := rv.get hx
    have hel : e < s.heap.objs.size := Heap.lt_size he
    have hil : it < s.heap.objs.size := by obtain ⟨_, q, _⟩ := hit; exact Heap.lt_size q
    have hi : i < its.toArray.size := by
      have := (List.getElem?_eq_some_iff.mp hu).1
      simpa using this
    have hai : a ≠ it := by
      obtain ⟨o1, q1, c1, _⟩ := id p
      obtain ⟨o2, q2, c2, _⟩ := id hit
      intro z
      rw [z, q2] at q1
      cases q1
      rw [c1] at c2
      exact absurd (Value.type.inj c2) (by decide)
    have hae : e ≠ a := by
      obtain ⟨o1, q1, c1, _⟩ := id p
      intro z
      rw [← z, he] at q1
      cases q1
      exact absurd (Value.type.inj c1) (by decide)
    have D := PySem.Draws.tuple (prog := X.prog) (w := X.w) (A := X.A.in1) (I.ok.hd hc) it a hai its.toArray
    refine wpAny_pyNext_enum_itemD D he ⟨hit, p⟩ hi hne (by simp [hne, hae]) fun y h' tk hP ho hst hT hsz hk => ?_
    have ey : y = u := by
      rw [List.getElem?_toArray, hu] at hP
      exact (Option.some.inj hP).symm
    subst ey
    refine ⟨_, rfl, wpAny_letOwnedTupleGo_enum (s := { s with heap := h', toks := tk + 1 }) ho fun h'' he' sb => ?_⟩
    have hT2 : h''.get? s.heap.objs.size = some { cls := .type "tuple", data := .seq #[.int i tk, y] } := (sb.2 _ (Nat.ne_of_gt hel)).trans hT
    have new : ObjOk X.prog X.w (upd H s.heap.objs.size (.tup [.int (i : Nat), x])) h'' s.heap.objs.size (.tup [.int (i : Nat), x]) :=
      ⟨by show 2 ≤ sizeLine; decide, [.int i tk, y], .cons ⟨_, rfl⟩ (.cons ru .nil), ⟨_, hT2, rfl, _, rfl⟩⟩
    have I1 : Inv X pins σ (upd H s.heap.objs.size (.tup [.int (i : Nat), x])) { s with heap := h'', toks := tk + 1 } :=
      I.turnedNew (ch := [e, it]) (fun b ob hb q => (sb.2 b (fun z => hb (by simp [z]))).trans (hk b ob (fun z => hb (by simp [z])) (fun z => hb (by simp [z])) q)) hf (Nat.le_refl _) new
    refine ⟨.ref s.heap.objs.size, _, I1, rfl, ⟨_, x, rfl, I.hok.fresh (Nat.le_refl _), rfl, fun ys hy => by rw [I.tuple_inj hy hq]; exact hx⟩, ⟨⟨y, ?_⟩, hst.1.at fun o q => (sb.2 it (Ne.symm hne)).trans q, hne⟩, fun b hb => ?_⟩
    · have e1 : ((i + 1 : Nat) : Int) = (i : Int) + 1 := by omega
      rw [e1]; exact he'
    · have hb' : b < s.heap.objs.size := by
        have e' : b = e ∨ b = it := by simpa using hb
        rcases e' with z | z
        · rw [z]; exact hel
        · rw [z]; exact hil
      rw [upd_ne (Nat.ne_of_lt hb')]
      exact (hf b hb).1
  done := by
    intro X hP hw hK hc i pins s σ H E I hf st hg
    subst hP hw hK
    obtain ⟨⟨old, he⟩, hit, hne⟩ := st
    obtain ⟨xs, hq, hx⟩ := hg
    obtain ⟨its, rv, p, hz⟩ := I.tuple hq
    obtain ⟨f0, f1, f2, f3, f4, f5⟩ := hf it (by simp)
    have hl := rv.length
    have hT : s.TypeIs (.ref e) "enumerate" := ⟨_, he, rfl⟩
    unfold pyNext
    refine wpAny_bind (wpAny_attempt (wpAny_callSpecial?_slot (name := Str.ofString "__next__") hT F.slot_enumerate_next
      (wpAny_call_entry F.slot_enumerate_next hT F.entry_enumerate_next ?_ (F.args_enumerate_next_1 _))))
    show wpAny _ _ (field (.ref e) 2 >>= _) _ _ _
    refine wpAny_bind (wpAny_field he rfl (x := .ref it) rfl ?_)
    refine wpAny_bind (wpAny_nextOf_tuple_end (I.ok.hd hc) hit p (by simp; omega) fun h' y he' hx' => ?_)
    obtain ⟨o, ho, hc⟩ := hx'
    refine wpAny_bind (wpAny_isInstance (T := "StopIteration") (b := true) ⟨o, ho, hc⟩ isSubtype_stop ?_)
    exact wpAny_pure ⟨rfl, I.turned (t' := s.toks) (fun b o hb q => he' b o hb q) f0 f1 f3 f4 f5⟩
  self := fun A i s Q E st h => let ⟨⟨_, he⟩, _⟩ := st; wpAny_pyIter_enum he h
def iEnumA (K : PySem.W.Frag) (ta : TA) : TI := fun σ H R => ta σ H fun vs H1 => ∃ a xs, vs = [.ref a] ∧ ((SqL K H1 a xs ∧ R (Ite K a) H1) ∨ (SqT K H1 a xs ∧ R (IteT K a) H1))
theorem pi_enumA {X : Cx} {e : Expr} {ta : TA} {p pos tpos : Pos} {elts : List Expr} {kk : Nat} (hg : Gl X "enumerate") (hm : X.mg "enumerate" = none) (ha : PA X [e] ta) (hs : starEach [e] X.env = [(false, eval e X.env)] := by rfl) :
    PI X (.Tuple elts kk tpos) (.Call (.Name "enumerate" p) [e] [] pos) (iEnumA X.K ta) := by
  refine ⟨fun pins s σ H R I h => ?_⟩
  refine Call_ (ld_blt I hg hm boot_enumerate (PyProof.Rows.callWith_type1 (thn (ha.run pos pins s σ H _ I h) fun us s1 ⟨vs, H1, I1, r1, q1⟩ => ?_) hs rfl))
  obtain ⟨a, xs, ex, q⟩ := q1
  subst ex
  cases r1 with
  | cons r rr =>
    cases rr
    cases r
    have fresh2 : ∀ b, b ∈ [s1.heap.objs.size + 1, s1.heap.objs.size] → FpOk X pins H1 b := fun b hb => by
      have e' : b = s1.heap.objs.size + 1 ∨ b = s1.heap.objs.size := by simpa using hb
      have hle : s1.heap.objs.size ≤ b := by
        rcases e' with z | z
        · rw [z]; exact Nat.le_add_right _ _
        · rw [z]; exact Nat.le_refl _
      exact I1.fpOk hle (I1.hok.fresh hle)
    rcases q with ⟨hq, q⟩ | ⟨hq, q⟩
    · obtain ⟨its, rv, p', hz⟩ := I1.list hq
      refine call_enumerate_list p'.isList fun h' he hit hsz hk => wpAny_pyIter_enum he ?_
      have I2 : Inv X pins σ H1 { s1 with heap := h' } := I1.kept (t' := s1.toks) hk
      exact ⟨s1.heap.objs.size + 1, [s1.heap.objs.size + 1, s1.heap.objs.size], _, _, H1, rfl, I2, turn_enum a (s1.heap.objs.size + 1) s1.heap.objs.size, ⟨⟨.none, he⟩, hit, Nat.succ_ne_self _⟩, fresh2, q⟩
    · obtain ⟨its, rv, p', hz⟩ := I1.tuple hq
      refine DLM.call_enumerate_tuple (show s1.heap.IsTuple a its.toArray from p') fun h' he hit hsz hk => wpAny_pyIter_enum he ?_
      have I2 : Inv X pins σ H1 { s1 with heap := h' } := I1.kept (t' := s1.toks) hk
      exact ⟨s1.heap.objs.size + 1, [s1.heap.objs.size + 1, s1.heap.objs.size], _, _, H1, rfl, I2, turn_enumT a (s1.heap.objs.size + 1) s1.heap.objs.size, ⟨⟨.none, he⟩, hit, Nat.succ_ne_self _⟩, fresh2, q⟩
def iSeq (K : PySem.W.Frag) (tl : TE) : TI := fun σ H R => tl σ H fun x H1 => ∃ a xs, x = .ref a ∧ ((SqL K H1 a xs ∧ R (Itl K a) H1) ∨ (SqT K H1 a xs ∧ R (Itt K a) H1))
theorem pi_seq {X : Cx} {tg l : Expr} {tl : TE} (hl : PE X l tl) : PI X tg l (iSeq X.K tl) := by
  refine ⟨fun pins s σ H R I h => ?_⟩
  refine thn (hl.run pins s σ H _ I h) fun v s1 ⟨x, H1, I1, r1, q1⟩ => ?_
  obtain ⟨a, xs, e, q⟩ := q1
  subst e
  cases r1
  have fresh1 : ∀ b, b ∈ [s1.heap.objs.size] → FpOk X pins H1 b := fun b hb => by
    have e : b = s1.heap.objs.size := by simpa using hb
    subst e
    exact I1.fpOk (Nat.le_refl _) (I1.hok.fresh (Nat.le_refl _))
  rcases q with ⟨hq, q⟩ | ⟨hq, q⟩
  · obtain ⟨its, rv, p, hz⟩ := I1.list hq
    refine wpAny_pyIter_list p.isList ?_
    exact ⟨s1.heap.objs.size, [s1.heap.objs.size], _, _, H1, rfl, I1.kept (t' := s1.toks) fun b o e => Heap.get?_push_of_some _ e, turn_list a _, ⟨_, Heap.get?_push_size _ rfl, rfl, rfl⟩, fresh1, q⟩
  · obtain ⟨its, rv, p, hz⟩ := I1.tuple hq
    refine wpAny_pyIter_tuple (show s1.heap.IsTuple a its.toArray from p) ?_
    exact ⟨s1.heap.objs.size, [s1.heap.objs.size], _, _, H1, rfl, I1.kept (t' := s1.toks) fun b o e => Heap.get?_push_of_some _ e, turn_tuple a _, ⟨_, Heap.get?_push_size _ rfl, rfl, rfl⟩, fresh1, q⟩
end L2
end
section
set_option Elab.async false
set_option linter.all false
set_option maxRecDepth 100000
set_option maxHeartbeats 4000000
namespace DL
open PySem L2 PyProof.Rows
variable [tB : Tb] [gR : Gr]
section
variable {P : Program} {w : World} {K : PySem.W.Frag} {mg : Str → Option Value} {base : Heap} {X : Cx} {N : List Str} {sc fs : Scope} {k : Nat}
theorem gl_of {x : Str} (c : Cok P w K mg base X N sc fs k) (h : glB sc x = true) : Gl X x ∧ x ≠ "__name__" ∧ (x == ("__debug__" : Str)) = false := by
  unfold glB at h
  simp only [Bool.and_eq_true, Bool.not_eq_true'] at h
  obtain ⟨⟨h1, h2⟩, h3⟩ := h
  refine ⟨?_, fun e => ?_, h2⟩
  · show X.env.kindOf x = some .globalImplicit
    rw [kindOf_S c]
    show sc.names.lookup x = _
    split at h1
    · assumption
    · cases h1
  · subst e
    exact absurd h3 (by decide)
def lsrc (st : Sto) : DV → Option (List DV × (Sto → Prop))
  | .d (.list xs) => some (xs.map .d, fun _ => True)
  | .r a => match st a with | some (.lst xs) => some (xs, fun s => s a = some (.lst xs)) | _ => none
  | _ => none
theorem lsrc_at {F0 H0 : Hp} {st0 : Sto} {v : V} {x : DV} {xs : List DV} {inv : Sto → Prop} (R0 : Rs K F0 H0 st0) (r : RV K F0 v x) (h : lsrc st0 x = some (xs, inv)) :
    ∃ a, v = .ref a ∧ (∃ vs, SqL K H0 a vs) ∧ inv st0 ∧ ∀ F H st, (∀ a o, F0 a = some o → F a = some o) → Rs K F H st → inv st → ∃ vs, SqL K H a vs ∧ RVs K F vs xs := by
  cases x with
  | d z =>
    cases z with
    | list ds =>
      cases h
      cases r with
      | d r =>
        cases r with
        | lst q s => exact ⟨_, rfl, ⟨_, SqL.mono (Rs.ex F0 H0 st0 R0) q⟩, True.intro, fun F H st e R _ => ⟨_, SqL.mono (fun a o z => Rs.ex F H st R a o (e a o z)) q, (s.mono e).rvs⟩⟩
    | _ => cases h
  | t ys => cases h
  | r a =>
    cases r
    unfold lsrc at h
    simp only at h
    cases e : st0 a with
    | none => rw [e] at h; cases h
    | some m =>
      rw [e] at h
      cases m with
      | lst ys =>
        cases h
        obtain ⟨vs, q, s⟩ := R0.ok a _ e
        refine ⟨a, rfl, ⟨vs, SqL.of q⟩, e, fun F H st _ R iv => ?_⟩
        obtain ⟨vs, q, s⟩ := R.ok a _ iv
        exact ⟨vs, SqL.of q, s⟩
      | dK _ => cases h
      | dT _ => cases h
      | ins _ _ => cases h
      | lk _ _ _ => cases h
      | xd _ => cases h
theorem tsrc_at {F0 H0 : Hp} {st0 : Sto} {v : V} {x : DV} {xs : List DV} (R0 : Rs K F0 H0 st0) (r : RV K F0 v x) (h : titems x = some xs) :
    ∃ a, v = .ref a ∧ (∃ vs, SqT K H0 a vs) ∧ ∀ F H st, (∀ a o, F0 a = some o → F a = some o) → Rs K F H st → ∃ vs, SqT K H a vs ∧ RVs K F vs xs := by
  obtain ⟨a, vs, e, q, s⟩ := titems_rv r h
  exact ⟨a, e, ⟨vs, SqT.of (R0.sub _ _ q).1⟩, fun F H st e R => ⟨vs, SqT.of (R.sub _ _ (e _ _ q)).1, s.mono e⟩⟩
def seqSrc (st : Sto) (x : DV) : Option (List DV × (Sto → Prop)) := match titems x with | some xs => some (xs, fun _ => True) | none => lsrc st x
def qiSeq (te : TD) : TDi := fun ε st Q => te ε st fun x s1 => match seqSrc s1 x with | some (its, inv) => Q its inv s1 | none => False
theorem di_seq {tg e : Expr} {te : TD} (h : DE X e te) : DI X tg e (qiSeq te) := by
  obtain ⟨t1, p, a⟩ := h
  refine ⟨⟨_, pi_seq p, fun F σ H ε st Qd R' R E h kk => ?_⟩⟩
  refine a F σ H ε st _ _ R E h fun F1 v H1 x s1 t1 R1 r q => ?_
  split at q
  rotate_left
  · exact q.elim
  rename_i its inv es
  unfold seqSrc at es
  split at es
  · rename_i xs ex
    cases es
    obtain ⟨a, rfl, ⟨vs, hv⟩, hs⟩ := tsrc_at R1 r ex
    refine ⟨a, vs, rfl, .inr ⟨hv, kk F1 _ H1 its _ s1 t1 R1 (fun F H st e R iv => ?_) q⟩⟩
    obtain ⟨vs, hv, s⟩ := hs F H st e R
    refine ⟨fun i y hy => ?_, vs, hv, Nat.le_of_eq s.length⟩
    obtain ⟨u, hu, ru⟩ := s.get' hy
    refine ⟨⟨vs, u, hv, hu⟩, fun v H' ⟨e1, e2⟩ => ?_⟩
    subst e1
    have := e2 vs hv
    rw [hu] at this
    cases this
    exact ⟨F, Step.refl _ _ _, R, ru⟩
  · obtain ⟨a, rfl, ⟨vs, hv⟩, iv0, hs⟩ := lsrc_at R1 r es
    refine ⟨a, vs, rfl, .inl ⟨hv, kk F1 _ H1 its _ s1 t1 R1 (fun F H st e R iv => ?_) q⟩⟩
    obtain ⟨vs, hv, s⟩ := hs F H st e R iv
    refine ⟨fun i y hy => ?_, vs, hv, Nat.le_of_eq s.length⟩
    obtain ⟨u, hu, ru⟩ := s.get' hy
    refine ⟨⟨vs, u, hv, hu⟩, fun v H' ⟨e1, e2⟩ => ?_⟩
    subst e1
    have := e2 vs hv
    rw [hu] at this
    cases this
    exact ⟨F, Step.refl _ _ _, R, ru⟩
def rngD (lo : Int) (n : Nat) : List DV := (List.range n).map fun (i : Nat) => .d (.int (lo + (i : Int)))
theorem rng_src {F0 : Hp} (lo : Int) (n : Nat) : Src K F0 (Itr lo n) (rngD lo n) (fun _ => True) := fun F H st e R iv => by
  unfold rngD
  refine ⟨fun i x hx => ?_, by simp [Itr]⟩
  rw [List.getElem?_map] at hx
  by_cases hlt : i < n
  · rw [List.getElem?_range hlt] at hx
    cases hx
    refine ⟨hlt, fun v H' ⟨e1, e2⟩ => ?_⟩
    subst e1 e2
    exact ⟨F, Step.refl _ _ _, R, .d (.int _)⟩
  · rw [List.getElem?_eq_none (by rw [List.length_range]; omega)] at hx
    cases hx
def qiRng1 (ta : TDa) : TDi := fun ε st Q => ta ε st fun vs s1 => match vs with
  | [.d (.int j)] => -(2 ^ 62) ≤ j ∧ j < 2 ^ 62 ∧ Q (rngD 0 j.toNat) (fun _ => True) s1
  | _ => False
def qiRng2 (ta : TDa) : TDi := fun ε st Q => ta ε st fun vs s1 => match vs with
  | [.d (.int i), .d (.int j)] => (-(2 ^ 62) ≤ i ∧ i < 2 ^ 62 ∧ -(2 ^ 62) ≤ j ∧ j < 2 ^ 62) ∧ Q (rngD i (j - i).toNat) (fun _ => True) s1
  | _ => False
theorem di_rng1 {tg a : Expr} {ta : TDa} {p pos : Pos} (c : Cok P w K mg base X N sc fs k) (hg : glB sc "range" = true) (hm : mg "range" = none) (h : DA X [a] ta) (hs : starEach [a] X.env = [(false, eval a X.env)] := by rfl) : DI X tg (.Call (.Name "range" p) [a] [] pos) (qiRng1 ta) := by
  obtain ⟨t1, p1, a1⟩ := h
  refine ⟨⟨_, pi_range1 (gl_of c hg).1 (by rw [c.hmg]; exact hm) p1 hs, fun F σ H ε st Qd R' R E h kk => ?_⟩⟩
  refine a1 F σ H ε st _ _ R E h fun F1 vs H1 xs s1 t1 R1 r q => ?_
  split at q
  · cases r with
    | cons r rr =>
      cases rr
      cases rv_int r
      exact ⟨_, rfl, q.1, q.2.1, kk F1 _ H1 _ _ s1 t1 R1 (rng_src 0 _) q.2.2⟩
  · exact q.elim
theorem di_rng2 {tg a b : Expr} {ta : TDa} {p pos : Pos} (c : Cok P w K mg base X N sc fs k) (hg : glB sc "range" = true) (hm : mg "range" = none) (h : DA X [a, b] ta) (hs : starEach [a, b] X.env = [(false, eval a X.env), (false, eval b X.env)] := by rfl) (hs2 : starEach [b] X.env = [(false, eval b X.env)] := by rfl) : DI X tg (.Call (.Name "range" p) [a, b] [] pos) (qiRng2 ta) := by
  obtain ⟨t1, p1, a1⟩ := h
  refine ⟨⟨_, pi_range2 (gl_of c hg).1 (by rw [c.hmg]; exact hm) p1 hs hs2, fun F σ H ε st Qd R' R E h kk => ?_⟩⟩
  refine a1 F σ H ε st _ _ R E h fun F1 vs H1 xs s1 t1 R1 r q => ?_
  split at q
  · cases r with
    | cons r rr =>
      cases rr with
      | cons r2 rr =>
        cases rr
        cases rv_int r
        cases rv_int r2
        exact ⟨_, _, rfl, q.1, kk F1 _ H1 _ _ s1 t1 R1 (rng_src _ _) q.2⟩
  · exact q.elim
def zipD (xs ys : List DV) : List DV := List.zipWith (fun x y => mkT [x, y]) xs ys
theorem pair_src {F H : Hp} {st : Sto} {T : Addr} {u1 u2 : V} {x y : DV} (R : Rs K F H st) (hT : H T = none) (r1 : RV K F u1 x) (r2 : RV K F u2 y) :
    ∃ F', Step F H st F' (upd H T (.tup [u1, u2])) st ∧ Rs K F' (upd H T (.tup [u1, u2])) st ∧ RV K F' (.ref T) (mkT [x, y]) := by
  obtain ⟨R', t⟩ := R.frz (o := .tup [u1, u2]) hT
  exact ⟨_, t, R', mkT_rv upd_same (.cons (r1.mono t.ex) (.cons (r2.mono t.ex) .nil))⟩
def qiZip (ta : TDa) : TDi := fun ε st Q => ta ε st fun vs s1 => match vs with
  | [x, y] => match titems x, titems y with
    | some xs, some ys => Q (zipD xs ys) (fun _ => True) s1
    | _, _ => match lsrc s1 x, lsrc s1 y with
      | some (xs, inv1), some (ys, inv2) => Q (zipD xs ys) (fun s => inv1 s ∧ inv2 s) s1
      | _, _ => False
  | _ => False
theorem di_zip {e e2 : Expr} {ta : TDa} {p pos tpos : Pos} {elts : List Expr} {kk' : Nat} (c : Cok P w K mg base X N sc fs k) (hg : glB sc "zip" = true) (hm : mg "zip" = none) (h : DA X [e, e2] ta)
    (hs : starEach [e, e2] X.env = (false, eval e X.env) :: starEach [e2] X.env := by rfl) (hpl : (backTo pos (starEach [e2] X.env)).any (·.1) = false := by rfl) : DI X (.Tuple elts kk' tpos) (.Call (.Name "zip" p) [e, e2] [] pos) (qiZip ta) := by
  obtain ⟨t1, p1, a1⟩ := h
  refine ⟨⟨_, RZ.pi_zipA (gl_of c hg).1 (by rw [c.hmg]; exact hm) p1 hs hpl, fun F σ H ε st Qd R' R E h kk => ?_⟩⟩
  refine a1 F σ H ε st _ _ R E h fun F1 vs H1 xs s1 t1 R1 r q => ?_
  split at q
  · cases r with
    | cons r rr =>
      cases rr with
      | cons r2 rr =>
        cases rr
        split at q
        · rename_i xs ys ex ey
          obtain ⟨a, rfl, ⟨vs, hv⟩, h1⟩ := tsrc_at R1 r ex
          obtain ⟨b, rfl, ⟨ws, hw⟩, h2⟩ := tsrc_at R1 r2 ey
          refine ⟨a, b, vs, ws, rfl, .inr ⟨hv, hw, kk F1 _ H1 _ _ s1 t1 R1 (fun F H st e R iv => ?_) q⟩⟩
          obtain ⟨vs, hv, s⟩ := h1 F H st e R
          obtain ⟨ws, hw, s2⟩ := h2 F H st e R
          refine ⟨fun i z hz => ?_, vs, ws, hv, hw, ?_⟩
          · unfold zipD at hz
            rw [List.getElem?_zipWith] at hz
            cases hx : xs[i]? with
            | none => simp [hx] at hz
            | some x =>
              cases hy : ys[i]? with
              | none => simp [hx, hy] at hz
              | some y =>
                simp [hx, hy] at hz
                subst hz
                obtain ⟨u, hu, ru⟩ := s.get' hx
                obtain ⟨u2, hu2, ru2⟩ := s2.get' hy
                refine ⟨⟨vs, ws, u, u2, hv, hw, hu, hu2⟩, fun v H' ⟨T, x', y', e1, hT, e2, h3, h4⟩ => ?_⟩
                subst e1 e2
                have q1 := h3 vs hv
                have q2 := h4 ws hw
                rw [hu] at q1
                rw [hu2] at q2
                cases q1
                cases q2
                exact pair_src R hT ru ru2
          · have l1 := s.length
            have l2 := s2.length
            unfold zipD
            rw [List.length_zipWith]
            omega
        · split at q
          rotate_left
          · exact q.elim
          rename_i xs inv1 ys inv2 ex ey
          obtain ⟨a, rfl, ⟨vs, hv⟩, i1, h1⟩ := lsrc_at R1 r ex
          obtain ⟨b, rfl, ⟨ws, hw⟩, i2, h2⟩ := lsrc_at R1 r2 ey
          refine ⟨a, b, vs, ws, rfl, .inl ⟨hv, hw, kk F1 _ H1 _ _ s1 t1 R1 (fun F H st e R iv => ?_) q⟩⟩
          obtain ⟨vs, hv, s⟩ := h1 F H st e R iv.1
          obtain ⟨ws, hw, s2⟩ := h2 F H st e R iv.2
          refine ⟨fun i z hz => ?_, vs, ws, hv, hw, ?_⟩
          · unfold zipD at hz
            rw [List.getElem?_zipWith] at hz
            cases hx : xs[i]? with
            | none => simp [hx] at hz
            | some x =>
              cases hy : ys[i]? with
              | none => simp [hx, hy] at hz
              | some y =>
                simp [hx, hy] at hz
                subst hz
                obtain ⟨u, hu, ru⟩ := s.get' hx
                obtain ⟨u2, hu2, ru2⟩ := s2.get' hy
                refine ⟨⟨vs, ws, u, u2, hv, hw, hu, hu2⟩, fun v H' ⟨T, x', y', e1, hT, e2, h3, h4⟩ => ?_⟩
                subst e1 e2
                have q1 := h3 vs hv
                have q2 := h4 ws hw
                rw [hu] at q1
                rw [hu2] at q2
                cases q1
                cases q2
                exact pair_src R hT ru ru2
          · have l1 := s.length
            have l2 := s2.length
            unfold zipD
            rw [List.length_zipWith]
            omega
  · exact q.elim
def enumD (xs : List DV) : List DV := xs.mapIdx fun i x => mkT [.d (.int (i : Int)), x]
def qiEnum (ta : TDa) : TDi := fun ε st Q => ta ε st fun vs s1 => match vs with
  | [x] => (match seqSrc s1 x with | some (xs, inv) => Q (enumD xs) inv s1 | none => False)
  | _ => False
theorem enum_at {xs : List DV} {i : Nat} {z : DV} (h : (enumD xs)[i]? = some z) : ∃ x, xs[i]? = some x ∧ z = mkT [.d (.int (i : Int)), x] := by
  unfold enumD at h
  rw [List.getElem?_mapIdx] at h
  cases e : xs[i]? with
  | none => simp [e] at h
  | some x => simp [e] at h; exact ⟨x, rfl, h.symm⟩
theorem di_enum {e : Expr} {ta : TDa} {p pos tpos : Pos} {elts : List Expr} {kk' : Nat} (c : Cok P w K mg base X N sc fs k) (hg : glB sc "enumerate" = true) (hm : mg "enumerate" = none) (h : DA X [e] ta) (hs : starEach [e] X.env = [(false, eval e X.env)] := by rfl) : DI X (.Tuple elts kk' tpos) (.Call (.Name "enumerate" p) [e] [] pos) (qiEnum ta) := by
  obtain ⟨t1, p1, a1⟩ := h
  refine ⟨⟨_, pi_enumA (gl_of c hg).1 (by rw [c.hmg]; exact hm) p1 hs, fun F σ H ε st Qd R' R E h kk => ?_⟩⟩
  refine a1 F σ H ε st _ _ R E h fun F1 vs H1 xs s1 t1 R1 r q => ?_
  split at q
  · cases r with
    | cons r rr =>
      cases rr
      split at q
      rotate_left
      · exact q.elim
      rename_i xs inv es
      unfold seqSrc at es
      split at es
      · rename_i ys ex
        cases es
        obtain ⟨a, rfl, ⟨vs, hv⟩, h1⟩ := tsrc_at R1 r ex
        refine ⟨a, vs, rfl, .inr ⟨hv, kk F1 _ H1 _ _ s1 t1 R1 (fun F H st e R iv => ?_) q⟩⟩
        obtain ⟨vs, hv, s⟩ := h1 F H st e R
        refine ⟨fun i z hz => ?_, vs, hv, by unfold enumD; rw [List.length_mapIdx]; exact Nat.le_of_eq s.length⟩
        obtain ⟨x, hx, rfl⟩ := enum_at hz
        obtain ⟨u, hu, ru⟩ := s.get' hx
        refine ⟨⟨vs, u, hv, hu⟩, fun v H' ⟨T, x', e1, hT, e2, h3⟩ => ?_⟩
        subst e1 e2
        have q1 := h3 vs hv
        rw [hu] at q1
        cases q1
        exact pair_src R hT (.d (.int _)) ru
      · obtain ⟨a, rfl, ⟨vs, hv⟩, i1, h1⟩ := lsrc_at R1 r es
        refine ⟨a, vs, rfl, .inl ⟨hv, kk F1 _ H1 _ _ s1 t1 R1 (fun F H st e R iv => ?_) q⟩⟩
        obtain ⟨vs, hv, s⟩ := h1 F H st e R iv
        refine ⟨fun i z hz => ?_, vs, hv, by unfold enumD; rw [List.length_mapIdx]; exact Nat.le_of_eq s.length⟩
        obtain ⟨x, hx, rfl⟩ := enum_at hz
        obtain ⟨u, hu, ru⟩ := s.get' hx
        refine ⟨⟨vs, u, hv, hu⟩, fun v H' ⟨T, x', e1, hT, e2, h3⟩ => ?_⟩
        subst e1 e2
        have q1 := h3 vs hv
        rw [hu] at q1
        cases q1
        exact pair_src R hT (.d (.int _)) ru
  · exact q.elim
/-- the reading that a data reading gives, whatever the context is -/
def lift {α β : Type} (rel : Hp → α → β → Prop) (K : PySem.W.Frag) (t : Env → Sto → (β → Sto → Prop) → Prop) : L2.St → Hp → (α → Hp → Prop) → Prop := fun σ H Q => ∃ F ε st Qd, Rs K F H st ∧ RE K F σ ε ∧ t ε st Qd ∧ Kg rel K F H st Qd Q
theorem lift_sg {α β : Type} {rel : Hp → α → β → Prop} {t : Env → Sto → (β → Sto → Prop) → Prop} : Sg rel K (lift rel K t) t := fun F σ H ε st Qd Q R E h kk => ⟨F, ε, st, Qd, R, E, h, kk⟩
theorem DE.lift {e : Expr} {t : TD} (h : DE X e t) : PE X e (DL.lift (RV X.K) X.K t) := by
  obtain ⟨te, p, a⟩ := h
  exact ⟨fun pins s σ H Q I ⟨F, ε, st, Qd, R, E, h, kk⟩ => p.run pins s σ H Q I (a F σ H ε st Qd Q R E h kk)⟩
theorem DTs.lift {e : List Expr} {t : TDt} (h : DTs X e t) : PTs X e (DL.lift relT X.K t) := by
  obtain ⟨te, p, a⟩ := h
  exact ⟨fun pins s σ H Q I ⟨F, ε, st, Qd, R, E, h, kk⟩ => p.run pins s σ H Q I (a F σ H ε st Qd Q R E h kk)⟩
def liftG (K : PySem.W.Frag) (ws : List Nat) (t : TDg) : TG := fun v σ H Q => ∃ F ε st x Qd, Rs K F H st ∧ RE K F σ ε ∧ RV K F v x ∧ t x ε st Qd ∧
  ∀ F' σ' H' ε' st', Step F H st F' H' st' → Rs K F' H' st' → RE K F' σ' ε' → (∀ vs : List Nat, (∀ i ∈ ws, i ∈ vs) → wipe σ' vs = wipe σ vs) → Qd ε' st' → Q σ' H'
theorem DG.lift {e : Expr} {ws : List Nat} {t : TDg} (h : DG X e ws t) : PG X e (liftG X.K ws t) := by
  obtain ⟨te, p, a⟩ := h
  exact ⟨fun pins s σ H v u Q I r ⟨F, ε, st, x, Qd, R, E, rv, h, kk⟩ => p.run pins s σ H v u Q I r (a F σ H ε st v x Qd Q R E rv h kk)⟩
def liftI (K : PySem.W.Frag) (t : TDi) : TI := fun σ H R' => ∃ F ε st Qd, Rs K F H st ∧ RE K F σ ε ∧ t ε st Qd ∧ ∀ F' J H' items inv st', Step F H st F' H' st' → Rs K F' H' st' → Src K F' J items inv → Qd items inv st' → R' J H'
theorem DI.lift {tg e : Expr} {t : TDi} (h : DI X tg e t) : PI X tg e (liftI X.K t) := by
  obtain ⟨te, p, a⟩ := h
  exact ⟨fun pins s σ H R' I ⟨F, ε, st, Qd, R, E, h, kk⟩ => p.run pins s σ H R' I (a F σ H ε st Qd R' R E h kk)⟩
theorem de_lc {elt tg iter : Expr} {ifs : List Expr} {scope : Scope} {pos : Pos} {ti : TDi} {g : TDg} {tt : TDt} {te : TD} {ws : List Nat} (m : Bool) (own : List (Str × Nat)) (c : Cok P w K mg base X N sc fs k) (hb : blkC N sc scope own = true) (hw : ∀ i ∈ ws, i ∈ own.map (·.2)) (hi : DI X tg iter ti)
    (hg : ∀ X', Cok P w K mg base X' N (relS scope sc) scope k → DG X' tg ws g) (ht : ∀ X', Cok P w K mg base X' N (relS scope sc) scope k → DTs X' ifs tt) (he : ∀ X', Cok P w K mg base X' N (relS scope sc) scope k → DE X' elt te)
    (hs : ∀ x, foldedSetIterable iter X.env x = pure x := by intro _; rfl) : DE X (.ListComp elt [⟨tg, iter, ifs, 0⟩] scope pos) (qLc m ti g tt te (own.map (·.2))) := by
  have ok : BlkOk X.N X.env.scope scope own := by
    rw [c.hN, c.hs]
    exact blkOk_by hb
  have cb := fun s H C cl fp => c.blk (scope := scope) ok.kind s H C cl fp
  obtain ⟨wi, p0, a0⟩ := hi
  refine ⟨⟨_, pe_lc (g := liftG X.K ws g) (tt := DL.lift relT X.K tt) (te := DL.lift (RV X.K) X.K te) c.calm (by rw [c.hN]; exact c.nd) p0 ok (fun s H C cl fp => (hg _ (cb s H C cl fp)).lift) (fun s H C cl fp => (ht _ (cb s H C cl fp)).lift) (fun s H C cl fp => (he _ (cb s H C cl fp)).lift) hs,
    comp_sim hw a0 (fun F σ H ε st v x Qd Q R E r q kk => ⟨F, ε, st, x, Qd, R, E, r, q, kk⟩) lift_sg lift_sg⟩⟩
/-- name = [..] on one line -/
def setLcB (N : List Str) (sc : Scope) (i : Nat) (y : Str) : Bool := decide (N[i]? = some y) && decide (sc.names.lookup y = some .local)
theorem ds_setLc {elt tg iter : Expr} {ifs : List Expr} {scope : Scope} {i : Nat} {y : Str} {py pos spos : Pos} {ti : TDi} {g : TDg} {tt : TDt} {te : TD} {ws : List Nat} (m : Bool) (own : List (Str × Nat)) (c : Cok P w K mg base X N sc fs k) (hy : setLcB N sc i y = true)
    (hsw : swapsWith (.ListComp elt [⟨tg, iter, ifs, 0⟩] scope pos) (some (.Name y py)) spos.line (envS sc) = pure true) (hb : blkC N sc scope own = true) (hw : ∀ i ∈ ws, i ∈ own.map (·.2)) (hi : DI X tg iter ti)
    (hg : ∀ X', Cok P w K mg base X' N (relS scope sc) scope k → DG X' tg ws g) (ht : ∀ X', Cok P w K mg base X' N (relS scope sc) scope k → DTs X' ifs tt) (he : ∀ X', Cok P w K mg base X' N (relS scope sc) scope k → DE X' elt te)
    (hs : ∀ x, foldedSetIterable iter X.env x = pure x := by intro _; rfl) : DS X (.Assign [.Name y py] (.ListComp elt [⟨tg, iter, ifs, 0⟩] scope pos) spos) (qAsg (qLc m ti g tt te (own.map (·.2))) (qgN i)) := by
  unfold setLcB at hy
  simp only [Bool.and_eq_true, decide_eq_true_eq] at hy
  have ok : BlkOk X.N X.env.scope scope own := by
    rw [c.hN, c.hs]
    exact blkOk_by hb
  have cb := fun s H C cl fp => c.blk (scope := scope) ok.kind s H C cl fp
  obtain ⟨wi, p0, a0⟩ := hi
  refine ⟨⟨_, ps_setLc (i := i) (g := liftG X.K ws g) (tt := DL.lift relT X.K tt) (te := DL.lift (RV X.K) X.K te) c.calm (by rw [c.hN]; exact c.nd) (by rw [c.hN]; exact hy.1) (by rw [c.hs]; exact hy.2) ((swaps_S c _ _ _).trans hsw) p0 ok (fun s H C cl fp => (hg _ (cb s H C cl fp)).lift) (fun s H C cl fp => (ht _ (cb s H C cl fp)).lift) (fun s H C cl fp => (he _ (cb s H C cl fp)).lift) hs,
    fun F σ H ε st Dd D R E h kk => ?_⟩⟩
  refine comp_sim (K := X.K) hw a0 (fun F σ H ε st v x Qd Q R E r q kk => ⟨F, ε, st, x, Qd, R, E, r, q, kk⟩) lift_sg lift_sg F σ H ε st _ _ R E h fun F1 v H1 x st1 s1 R1 r q => ?_
  exact kk.nx F1 _ H1 _ st1 s1 R1 ((E.mono s1.ex).set r i) q
abbrev SpD := List DV → Sto → (DV → Sto → Prop) → Prop
def hsp (K : PySem.W.Frag) (sp : SpD) : Sp := fun vs H Q _ => ∃ F st xs Qd, Rs0 K F H st ∧ RVs K F vs xs ∧ sp xs st Qd ∧ @Kg _ Gr.tr _ _ (RV K) K F H st Qd Q
def qCall (sp : SpD) (ta : TDa) : TD := fun ε st Q => ta ε st fun xs s1 => sp xs s1 Q
theorem de_call {x : Str} {e : Expr} {es : List Expr} {ta : TDa} {p pos : Pos} {f : Addr} {fd : FuncData} {ps : List Str} {sp : SpD} {j : Nat} (c : Cok P w K mg base X N sc fs k) (hg : glB sc x = true) (hm : mg x = some (.ref f)) (hk : PySem.W.keepIn K (.ref f) = true) (G : FnOk P w K mg base CX0 j f fd ps (hsp K sp)) (hj : j ≤ k) (b : Binds K fd ps [])
    (ha : DA X (e :: es) ta) (he : starEach (e :: es) X.env = (false, eval e X.env) :: starEach es X.env := by rfl) (hpl : (backTo pos (starEach es X.env)).any (·.1) = false := by rfl) : DE X (.Call (.Name x p) (e :: es) [] pos) (qCall sp ta) := by
  obtain ⟨t1, p1, a1⟩ := ha
  obtain ⟨hX1, hX2, hX3, hX4, hX5, _⟩ := id c
  have g := gl_of c hg
  have G' : FnOk X.prog X.w X.K X.mg X.base CX0 k f fd ps (hsp X.K sp) := by
    rw [hX1, hX2, hX3, hX4, hX5]
    exact G.mono hj
  refine ⟨⟨_, pe_call G' c.room g.1 (by rw [hX4]; exact hm) (by rw [hX3]; exact hk) (by rw [hX3]; exact b) .nil pass0 p1 g.2.2 he hpl, fun F σ H ε st Qd Q R E h kk => ?_⟩⟩
  refine a1 F σ H ε st _ _ R E h fun F1 vs H1 xs s1 t1 R1 r q => ?_
  show hsp X.K sp (vs ++ []) H1 Q E0
  rw [List.append_nil]
  exact ⟨F1, s1, xs, Qd, R1.toRs0, r, q, (kk.step t1).tr R1⟩
/-- what is given out, all else of the store forgotten -/
def Fg (Q : DV → Sto → Prop) : DV → Sto → Prop := fun x st => ∃ st', Le st' st ∧ Q x st'
def startD (n : Nat) (xs : List DV) : Env := xs.map some ++ List.replicate (n - xs.length) none
theorem start_re {F : Hp} {vs : List V} {xs : List DV} (r : RVs K F vs xs) (N : List Str) : RE K F (L2.start N vs) (startD N.length xs) := by
  have hl := r.length
  refine ⟨by unfold L2.start startD; simp only [List.length_append, List.length_map, List.length_replicate]; omega, fun i x h => ?_⟩
  unfold startD at h
  unfold L2.start
  by_cases hi : i < xs.length
  · rw [List.getElem?_append_left (by rw [List.length_map]; exact hi), List.getElem?_map] at h
    rw [List.getElem?_append_left (by rw [List.length_map]; omega), List.getElem?_map]
    cases e : xs[i]? with
    | none => rw [e] at h; cases h
    | some y =>
      rw [e] at h
      cases h
      obtain ⟨v, hv, rv⟩ := r.get' e
      exact ⟨v, by rw [hv]; rfl, rv⟩
  · rw [List.getElem?_append_right (by rw [List.length_map]; omega), List.getElem?_replicate] at h
    split at h <;> cases h
omit gR in
/-- THE RULE of a def: its body's derivation, and its reading -/
theorem fn_ok {x qual : Str} {s : Stmt} {f : Addr} {fd : FuncData} {ps : List Str} {sp : SpD} {t : TDs} (Fu : Fun K x qual s f fd) (S : FnScope N ps (defScope s)) (len : ∀ xs st Q, sp xs st Q → xs.length = ps.length)
    (hbody : ∀ [Gr] X, Cok P w K mg base X N (defScope s) (defScope s) k → DSs X (defBody s) t)
    (hsem : ∀ xs st Q, sp xs st Q → t { nx := fun _ st' => Fg Q (.d .none) st', rt := Fg Q } (startD N.length xs) st) : FnOk P w K mg base CX0 (k + 1) f fd ps (hsp K sp) := by
  refine Fu.ok S (fun vs H Q E ⟨F, st, xs, Qd, R, r, h, kk⟩ => r.length.trans (len xs st Qd h)) (fun cdv A outer s' H vs Q E hr ⟨F, st, xs, Qd, R, r, h, kk⟩ => ?_)
  have c : Cok P w K mg base (cxOf CX0 P w K mg base N qual (defScope s) f cdv A outer s' H E).nox N (defScope s) (defScope s) k :=
    ⟨rfl, rfl, rfl, rfl, rfl, rfl, S.nd, S.kind, rfl, rfl, fun _ _ => rfl, hr, fun _ _ h => h.elim⟩
  obtain ⟨ts, p, a⟩ := hbody _ c
  have fin : ∀ F' v H' x' st', Step F H st F' H' st' → Rs K F' H' st' → RV K F' v x' → Fg Qd x' st' → Q v H' := fun F' v H' x' st' t R' r' ⟨st2, le, q⟩ =>
    kk F' v H' x' st2 (t.less le) (R'.toRs0.le le).tr r' q
  refine ⟨ts, p, a F _ H (startD N.length xs) st _ _ R.tr (start_re r N) (hsem xs st Qd h) ⟨fun F' σ' H' ε' st' t R' E' q => fin F' .non H' (.d .none) st' t R' (.d .non) q, fin, fun _ _ _ _ _ _ _ _ z => z.elim, fun _ _ _ _ _ _ _ _ z => z.elim⟩⟩
end
end DL
end
section
set_option Elab.async false
set_option linter.all false
set_option maxRecDepth 100000
set_option maxHeartbeats 4000000
namespace DL
open PySem L2 PyProof.Rows
variable [tB : Tb] [gR : Gr]
section
variable {P : Program} {w : World} {K : PySem.W.Frag} {mg : Str → Option Value} {base : Heap} {X : Cx} {N : List Str} {sc fs : Scope} {k : Nat}
theorem Cok.hu (c : Cok P w K mg base X N sc fs k) : X.A.units + 1 < cLine := hu_of c.room
theorem Cok.hu64 (c : Cok P w K mg base X N sc fs k) : X.A.units + 64 < cLine := c.room.units
theorem Cok.hu0 (c : Cok P w K mg base X N sc fs k) : X.A.units < cLine := c.room.units0
def qCB (r : RLD) (ta : TDa) : TD := fun ε st Q => ta ε st fun xs s1 => r xs s1 Q
theorem de_cb {x : Str} {e : Expr} {es : List Expr} {ta : TDa} {p pos : Pos} {id : String} {r : RLD} (c : Cok P w K mg base X N sc fs k) (hg : glB sc x = true) (hm : mg x = none) (hv : bootBuiltins x = some (.builtin id)) (hc : ∃ r', CallR X (.builtin id) r' ∧ SL X.K r' r)
    (ha : DA X (e :: es) ta) (he : starEach (e :: es) X.env = (false, eval e X.env) :: starEach es X.env := by rfl) (hpl : (backTo pos (starEach es X.env)).any (·.1) = false := by rfl) : DE X (.Call (.Name x p) (e :: es) [] pos) (qCB r ta) := by
  obtain ⟨t1, p1, a1⟩ := ha
  obtain ⟨r', h1, h2⟩ := hc
  have g := gl_of c hg
  refine ⟨⟨_, pe_callB h1 g.1 (by rw [c.hmg]; exact hm) hv p1 g.2.1 g.2.2 he hpl, fun F σ H ε st Qd Q R E h kk => a1.go R E h kk fun F1 H1 s1 v x R1 E1 rv q kk => h2 F1 H1 s1 v x _ _ R1 rv q kk⟩⟩
theorem de_ct {x : Str} {e : Expr} {es : List Expr} {ta : TDa} {p pos : Pos} {T : String} {r : RLD} (c : Cok P w K mg base X N sc fs k) (hg : glB sc x = true) (hm : mg x = none) (hv : bootBuiltins x = some (.type T)) (hc : ∃ r', CallR X (.type T) r' ∧ SL X.K r' r)
    (ha : DA X (e :: es) ta) (he : starEach (e :: es) X.env = (false, eval e X.env) :: starEach es X.env := by rfl) (hpl : (backTo pos (starEach es X.env)).any (·.1) = false := by rfl) : DE X (.Call (.Name x p) (e :: es) [] pos) (qCB r ta) := by
  obtain ⟨t1, p1, a1⟩ := ha
  obtain ⟨r', h1, h2⟩ := hc
  have g := gl_of c hg
  refine ⟨⟨_, pe_callTy h1 g.1 (by rw [c.hmg]; exact hm) hv p1 g.2.1 g.2.2 he hpl, fun F σ H ε st Qd Q R E h kk => a1.go R E h kk fun F1 H1 s1 v x R1 E1 rv q kk => h2 F1 H1 s1 v x _ _ R1 rv q kk⟩⟩
theorem CallR.or2 {f : Value} {r r' : List V → Hp → VK → Prop} (h : CallR X f r) (h' : CallR X f r') : CallR X f (fun x H Q => r x H Q ∨ r' x H Q) := by
  intro pins s σ H xs us Q I rx q
  rcases q with q | q
  · exact h pins s σ H xs us Q I rx q
  · exact h' pins s σ H xs us Q I rx q
theorem rvs1 {F : Hp} {vs : List V} {x : DV} (r : RVs K F vs [x]) : ∃ v, vs = [v] ∧ RV K F v x := by
  cases r with
  | cons a b => cases b; exact ⟨_, rfl, a⟩
theorem rvs2 {F : Hp} {vs : List V} {x y : DV} (r : RVs K F vs [x, y]) : ∃ v w, vs = [v, w] ∧ RV K F v x ∧ RV K F w y := by
  cases r with
  | cons a b => cases b with | cons b c => cases c; exact ⟨_, _, rfl, a, b⟩
/-- len -/
def qLen : RLD := fun xs st Q => match xs with
  | [.d (.str z)] => z.length ≤ sizeLine ∧ Q (.d (.int (z.length : Int))) st
  | [x] => (match sitems st x with
    | some l => Q (.d (.int (l.length : Int))) st
    | none => match x with
      | .r a => (match st a with
        | some (.dK kvs) => Q (.d (.int (kvs.length : Int))) st
        | _ => False)
      | _ => False)
  | _ => False
theorem c_len : ∃ r', CallR X (.builtin "len") r' ∧ SL X.K r' qLen := by
  refine ⟨_, CallR.or2 (CallR.or2 call_len_str call_len_seq) call_lenD, ?_⟩
  intro F H st vs xs Qd Q R rv h kk
  unfold qLen at h
  split at h
  · obtain ⟨v, rfl, r⟩ := rvs1 rv
    cases rv_str r
    exact .inl (.inl ⟨_, rfl, h.1, kk.at R (.d (.int _)) h.2⟩)
  · obtain ⟨v, rfl, r⟩ := rvs1 rv
    split at h
    · rename_i l el
      obtain ⟨p, ys, rfl, hq, s⟩ := sitems_rv R r el
      refine .inl (.inr ⟨p, ys, rfl, hq, ?_⟩)
      rw [s.length]
      exact kk.at R (.d (.int _)) h
    · split at h
      · rename_i a hx
        cases r
        split at h
        · rename_i kvs e
          obtain ⟨ws, q, s⟩ := R.ok _ _ e
          have hl : ws.length = kvs.length := Paired.length s
          refine .inr ⟨_, ws, rfl, q, ?_⟩
          rw [hl]
          exact kk.at R (.d (.int _)) h
        · exact h.elim
      · exact h.elim
  · exact h.elim
/-- tuple(x), list(x) -/
def qTupleC : RLD := fun xs st Q => match xs with
  | [x] => (match sitems st x with | some l => Q (mkT l) st | none => False)
  | _ => False
theorem c_tuple : ∃ r', CallR X (.type "tuple") r' ∧ SL X.K r' qTupleC := by
  refine ⟨_, call_tuple_of, ?_⟩
  intro F H st vs xs Qd Q R rv h kk
  unfold qTupleC at h
  split at h
  · obtain ⟨v, rfl, r⟩ := rvs1 rv
    split at h
    · rename_i x l el
      unfold sitems at el
      split at el
      · rename_i l' et
        cases el
        obtain ⟨p, ys, rfl, hq, s⟩ := titems_rv r et
        exact ⟨p, ys, rfl, .inr ⟨SqT.of (R.sub _ _ hq).1, kk.at R (mkT_rv hq s) h⟩⟩
      · obtain ⟨p, ys, rfl, hq, s⟩ := litems_rv R r el
        exact ⟨p, ys, rfl, .inl ⟨hq, fun l hl => new_tup R s hl h kk⟩⟩
    · exact h.elim
  · exact h.elim
def qListC (m : Bool) : RLD := fun xs st Q => match xs with
  | [x] => (match sitems st x with | some l => newL m l st Q | none => False)
  | _ => False
theorem c_list (m : Bool) : ∃ r', CallR X (.type "list") r' ∧ SL X.K r' (qListC m) := by
  refine ⟨_, call_list_of, ?_⟩
  intro F H st vs xs Qd Q R rv h kk
  unfold qListC at h
  split at h
  · obtain ⟨v, rfl, r⟩ := rvs1 rv
    split at h
    · rename_i x l el
      obtain ⟨p, ys, rfl, hq, s⟩ := sitems_rv R r el
      exact ⟨p, ys, rfl, hq, fun l hl => new_lst R s hl h kk⟩
    · exact h.elim
  · exact h.elim
/-- max, min of two -/
def qMax2 : RLD := fun xs st Q => match xs with
  | [.d (.int i), .d (.int j)] => Q (.d (.int (if j > i then j else i))) st
  | _ => False
def qMin2 : RLD := fun xs st Q => match xs with
  | [.d (.int i), .d (.int j)] => Q (.d (.int (if j < i then j else i))) st
  | _ => False
theorem c_max2 (hc : X.calm = true) : ∃ r', CallR X (.builtin "max") r' ∧ SL X.K r' qMax2 := by
  refine ⟨_, call_max2 hc, ?_⟩
  intro F H st vs xs Qd Q R rv h kk
  unfold qMax2 at h
  split at h
  · obtain ⟨v, w', rfl, r, r2⟩ := rvs2 rv
    cases rv_int r; cases rv_int r2
    exact ⟨_, _, rfl, kk.at R (.d (.int _)) h⟩
  · exact h.elim
theorem c_min2 (hc : X.calm = true) : ∃ r', CallR X (.builtin "min") r' ∧ SL X.K r' qMin2 := by
  refine ⟨_, call_min2 hc, ?_⟩
  intro F H st vs xs Qd Q R rv h kk
  unfold qMin2 at h
  split at h
  · obtain ⟨v, w', rfl, r, r2⟩ := rvs2 rv
    cases rv_int r; cases rv_int r2
    exact ⟨_, _, rfl, kk.at R (.d (.int _)) h⟩
  · exact h.elim
/-- int(n) -/
def qIntC : RLD := fun xs st Q => match xs with
  | [.d (.int i)] => Q (.d (.int i)) st
  | [.d (.bool b)] => Q (.d (.int (if b then 1 else 0))) st
  | _ => False
theorem c_int : ∃ r', CallR X (.type "int") r' ∧ SL X.K r' qIntC := by
  refine ⟨_, call_int1, ?_⟩
  intro F H st vs xs Qd Q R rv h kk
  unfold qIntC at h
  split at h
  · obtain ⟨v, rfl, r⟩ := rvs1 rv
    cases rv_int r
    exact .inl ⟨_, rfl, kk.at R (.d (.int _)) h⟩
  · obtain ⟨v, rfl, r⟩ := rvs1 rv
    cases rv_bool r
    exact .inr ⟨_, rfl, kk.at R (.d (.int _)) h⟩
  · exact h.elim
/-- sum of ints -/
def rSumT (K : PySem.W.Frag) : List V → Hp → VK → Prop := fun vs H Q => ∃ (a : Addr) (ns : List Int), vs = [V.ref a] ∧ SqT K H a (ns.map V.int) ∧ Q (.int ns.sum) H
theorem cr_sumT (hc : X.calm = true) : CallR X (.builtin "sum") (rSumT X.K) := by
  intro pins s σ H vs us Q I r h
  obtain ⟨a, ns, rfl, hs, q⟩ := h
  obtain ⟨its, rv, hl, _⟩ := I.tuple hs
  rw [Vals.ref1 r]
  have hi := rv.ints
  obtain ⟨xs, e⟩ := hi.allInts.items
  have hn : numsOf (intItems xs).toList = ns := by rw [← e]; exact hi.numsOf
  rw [nums_intItems] at hn
  rw [e] at hl
  refine PySem.W.ktm_sumG (I.ok.hd hc) (show s.heap.IsTuple a (intItems xs) from hl) fun h' tk t' hk => ?_
  rw [preSum_eq, List.take_of_length_le (by simp), hn]
  exact ⟨.int _, H, I.kept hk, ⟨_, rfl⟩, q⟩
def qSum : RLD := fun xs st Q => match xs with
  | [x] => (match sitems st x with | some l => (match dints l with | some ns => Q (.d (.int ns.sum)) st | none => False) | none => False)
  | _ => False
theorem c_sum (hc : X.calm = true) : ∃ r', CallR X (.builtin "sum") r' ∧ SL X.K r' qSum := by
  refine ⟨_, CallR.or2 (cr_sum hc) (cr_sumT hc), ?_⟩
  intro F H st vs xs Qd Q R rv h kk
  unfold qSum at h
  split at h
  · obtain ⟨v, rfl, r⟩ := rvs1 rv
    split at h
    · rename_i x l el
      split at h
      rotate_left
      · exact h.elim
      rename_i ns en
      have q := h
      obtain ⟨p, ys, rfl, hq, s⟩ := sitems_rv R r el
      obtain ⟨rfl, _⟩ := dints_rvs s en
      rcases hq with hq | hq
      · exact .inl ⟨p, ns, rfl, hq, kk.at R (.d (.int _)) q⟩
      · exact .inr ⟨p, ns, rfl, hq, kk.at R (.d (.int _)) q⟩
    · exact h.elim
  · exact h.elim
/-- any, all of truth values -/
def dbools : List DV → Option (List Bool)
  | [] => some []
  | .d (.bool i) :: r => (dbools r).map (i :: ·)
  | _ :: _ => none
theorem dbools_rvs : ∀ {F : Hp} {vs : List V} {xs : List DV} {ns : List Bool}, RVs K F vs xs → dbools xs = some ns → vs = ns.map V.bl
  | _, _, [], ns, r, h => by cases h; cases r; rfl
  | F, v :: vs, .d (.bool i) :: xs, ns, .cons r q, h => by
    cases e : dbools xs with
    | none => simp [dbools, e] at h
    | some l =>
      simp [dbools, e] at h
      subst h
      cases rv_bool r
      rw [dbools_rvs q e]
      rfl
theorem dbools_map : ∀ l : List Bool, dbools (l.map fun i => .d (.bool i)) = some l
  | [] => rfl
  | i :: r => by simp [dbools, dbools_map r]
def qAny : RLD := fun xs st Q => match xs with
  | [x] => (match litems st x with | some l => (match dbools l with | some ns => Q (.d (.bool (ns.any id))) st | none => False) | none => False)
  | _ => False
def qAll : RLD := fun xs st Q => match xs with
  | [x] => (match litems st x with | some l => (match dbools l with | some ns => Q (.d (.bool (ns.all id))) st | none => False) | none => False)
  | _ => False
theorem c_any (hc : X.calm = true) : ∃ r', CallR X (.builtin "any") r' ∧ SL X.K r' qAny := by
  refine ⟨_, cr_any hc, ?_⟩
  intro F H st vs xs Qd Q R rv h kk
  unfold qAny at h
  split at h
  · obtain ⟨v, rfl, r⟩ := rvs1 rv
    split at h
    · rename_i x l el
      split at h
      rotate_left
      · exact h.elim
      rename_i ns en
      have q := h
      obtain ⟨p, ys, rfl, hq, s⟩ := litems_rv R r el
      cases dbools_rvs s en
      exact ⟨p, ns, rfl, hq, kk.at R (.d (.bl _)) q⟩
    · exact h.elim
  · exact h.elim
theorem c_all (hc : X.calm = true) : ∃ r', CallR X (.builtin "all") r' ∧ SL X.K r' qAll := by
  refine ⟨_, cr_all hc, ?_⟩
  intro F H st vs xs Qd Q R rv h kk
  unfold qAll at h
  split at h
  · obtain ⟨v, rfl, r⟩ := rvs1 rv
    split at h
    · rename_i x l el
      split at h
      rotate_left
      · exact h.elim
      rename_i ns en
      have q := h
      obtain ⟨p, ys, rfl, hq, s⟩ := litems_rv R r el
      cases dbools_rvs s en
      exact ⟨p, ns, rfl, hq, kk.at R (.d (.bl _)) q⟩
    · exact h.elim
  · exact h.elim
def tyName (st : Sto) : DV → Option String
  | .d .none => some "NoneType"
  | .d (.bool _) => some "bool"
  | .d (.int _) => some "int"
  | .d (.str _) => some "str"
  | .d (.list _) => some "list"
  | .d (.tuple _) => some "tuple"
  | .d (.dict _) => none
  | .t _ => some "tuple"
  | .r a => match st a with | some (.lst _) => some "list" | some (.dK _) => some "dict" | some (.dT _) => some "dict" | _ => none
theorem tyx_of {F H : Hp} {st : Sto} {v : V} {x : DV} {T : String} (R : Rs K F H st) (r : RV K F v x) (h : tyName st x = some T) : TyX K H v (.type T) := by
  cases x with
  | d z =>
    cases r with
    | d r =>
      cases r with
      | non => cases h; exact .base .non
      | bl b => cases h; exact .base (.bl b)
      | int i => cases h; exact .base (.int i)
      | str z => cases h; exact .base (.str z)
      | lst q s =>
        cases h
        rcases SqL.mono (Rs.ex F H st R) q with (q | ⟨o, q⟩) | q
        · exact .base (.lst q)
        · exact .base (.frz q)
        · obtain ⟨o, its, n, q1, q2, _⟩ := q
          exact .kList q1 q2
      | tup q s => cases h; exact .base (.tup (R.sub _ _ q).1)
  | t ys =>
    cases h
    cases r with
    | t q s => exact .base (.tup (R.sub _ _ q).1)
  | r a =>
    cases r
    unfold tyName at h
    simp only at h
    cases e : st a with
    | none => rw [e] at h; cases h
    | some m =>
      rw [e] at h
      cases m with
      | lst ys => cases h; obtain ⟨vs, q, s⟩ := R.ok a _ e; exact .base (.lst q)
      | dK ys => cases h; obtain ⟨vs, q, s⟩ := R.ok a _ e; exact .base (.dK q)
      | dT ys => cases h; obtain ⟨vs, q, s⟩ := R.ok a _ e; exact .base (.dT q)
      | ins _ _ => cases h
      | lk _ _ _ => cases h
      | xd _ => cases h
def qIsi (T : String) (ta : TD) : TD := fun ε st Q => ta ε st fun x s1 => match tyName s1 x with
  | some T' => (match kitB T' T with | some b => Q (.d (.bool b)) s1 | none => False)
  | none => False
theorem de_isi {x : Str} {e : Expr} {ta : TD} {T : String} {p p2 pos : Pos} (c : Cok P w K mg base X N sc fs k) (hg : glB sc "isinstance" = true) (hm : mg "isinstance" = none) (hg2 : glB sc x = true) (hm2 : mg x = none) (hv : bootBuiltins x = some (.type T)) (ha : DE X e ta)
    (he : starEach [e, .Name x p2] X.env = (false, eval e X.env) :: starEach [.Name x p2] X.env := by rfl) : DE X (.Call (.Name "isinstance" p) [e, .Name x p2] [] pos) (qIsi T ta) := by
  obtain ⟨t1, p1, a1⟩ := ha
  have g := gl_of c hg
  have g2 := gl_of c hg2
  refine ⟨⟨_, pe_callB call_isi g.1 (by rw [c.hmg]; exact hm) (by decide +kernel) (pa_cons p1 (pa_cons (pe_bltn (v := .ty T) g2.1 (by rw [c.hmg]; exact hm2) hv rfl g2.2.1 g2.2.2) pa_nil rfl) he) g.2.1 g.2.2 he rfl, fun F σ H ε st Qd Q R E h kk => ?_⟩⟩
  refine a1.go (W := fun x H1 => rIsi X.K (x :: [.ty T]) H1 Q) R E h kk fun F1 H1 s1 v y R1 E1 rv q kk => ?_
  split at q
  rotate_left
  · exact q.elim
  rename_i T' e1
  split at q
  rotate_left
  · exact q.elim
  rename_i b e2
  exact ⟨v, .ty T, .type T', .type T, b, rfl, .ty T, tyx_of R1 rv e1, kit_ty e2, kk.at R1 (.d (.bl _)) q⟩
def keyD : DV → Option Key
  | .d (.int i) => some (.inl i)
  | .d (.str x) => some (.inr x)
  | _ => none
def keyT : List DV → Option (List Key)
  | [] => some []
  | x :: r => match keyD x, keyT r with | some k, some l => some (k :: l) | _, _ => none
def lookD {κ : Type} [DecidableEq κ] (kvs : List (κ × DV)) (k : κ) : Option DV := (kvs.find? fun kv => decide (kv.1 = k)).map (·.2)
def putD {κ : Type} [DecidableEq κ] (kvs : List (κ × DV)) (k : κ) (v : DV) : List (κ × DV) :=
  if (kvs.any fun kv => decide (kv.1 = k)) = true then kvs.map fun kv => if kv.1 = k then (kv.1, v) else kv else kvs ++ [(k, v)]
abbrev PR (K : PySem.W.Frag) (F : Hp) {κ : Type} : List (κ × V) → List (κ × DV) → Prop := Paired fun p q => p.1 = q.1 ∧ RV K F p.2 q.2
theorem key_rv {F : Hp} {v : V} {x : DV} {q : Key} (r : RV K F v x) (h : keyD x = some q) : v = kV q := by
  cases x with
  | d z =>
    cases z with
    | int i => cases h; exact rv_int r
    | str s => cases h; exact rv_str r
    | _ => cases h
  | r a => cases h
  | t a => cases h
theorem keyT_rv : ∀ {F : Hp} {vs : List V} {xs : List DV} {q : List Key}, RVs K F vs xs → keyT xs = some q → vs = q.map kV
  | _, _, [], q, r, h => by cases h; cases r; rfl
  | F, v :: vs, x :: xs, q, .cons r s, h => by
    unfold keyT at h
    cases e1 : keyD x with
    | none => rw [e1] at h; cases h
    | some a =>
      cases e2 : keyT xs with
      | none => rw [e1, e2] at h; cases h
      | some l =>
        rw [e1, e2] at h
        cases h
        rw [key_rv r e1, keyT_rv s e2]
        rfl
theorem look_rv {κ : Type} [DecidableEq κ] {F : Hp} {ws : List (κ × V)} {kvs : List (κ × DV)} (r : PR K F ws kvs) (q : κ) : (∃ v x, valV ws q = some v ∧ lookD kvs q = some x ∧ RV K F v x) ∨ (valV ws q = none ∧ lookD kvs q = none) := by
  induction r with
  | nil => exact .inr ⟨rfl, rfl⟩
  | @cons a b l1 l2 h t ih =>
    obtain ⟨e, r⟩ := h
    by_cases hq : a.1 = q
    · refine .inl ⟨a.2, b.2, valV_pos hq, ?_, r⟩
      unfold lookD
      rw [List.find?_cons, decide_eq_true (e ▸ hq)]
      rfl
    · have h1 : valV (a :: l1) q = valV l1 q := valV_neg hq
      have h2 : lookD (b :: l2) q = lookD l2 q := by
        unfold lookD
        rw [List.find?_cons, decide_eq_false (e ▸ hq)]
      rw [h1, h2]
      exact ih
theorem put_rv {κ : Type} [DecidableEq κ] {F : Hp} {ws : List (κ × V)} {kvs : List (κ × DV)} (r : PR K F ws kvs) (q : κ) {v : V} {x : DV} (rx : RV K F v x) : PR K F (putK ws q v) (putD kvs q x) := by
  have ha : (ws.any fun kv => decide (kv.1 = q)) = kvs.any fun kv => decide (kv.1 = q) := by
    clear rx
    induction r with
    | nil => rfl
    | @cons a b l1 l2 h t ih => rw [List.any_cons, List.any_cons, ih, h.1]
  unfold putK putD
  rw [ha]
  by_cases h : (kvs.any fun kv => decide (kv.1 = q)) = true
  · rw [if_pos h, if_pos h]
    clear ha h
    induction r with
    | nil => exact .nil
    | @cons a b l1 l2 h t ih =>
      rw [List.map_cons, List.map_cons]
      refine .cons ?_ ih
      by_cases e : a.1 = q
      · rw [if_pos e, if_pos (h.1 ▸ e)]
        exact ⟨h.1, rx⟩
      · rw [if_neg e, if_neg (h.1 ▸ e)]
        exact h
  · rw [if_neg h, if_neg h]
    exact Paired.snoc r ⟨rfl, rx⟩
/-- what a dict of the store holds at a key -/
def dlook (m : Option MO) (y : DV) : Option (Option DV) := match m with
  | some (.dK kvs) => (keyD y).map fun q => lookD kvs q
  | some (.dT kvs) => match titems y with | some ys => (keyT ys).map fun q => lookD kvs q | none => none
  | some (.lk _ _ kvs) => match titems y with | some ys => (keyT ys).map fun q => lookD kvs q | none => none
  | _ => none
theorem dlook_at {F H : Hp} {st : Sto} {a : Addr} {u : V} {y : DV} {o : Option DV} (R : Rs K F H st) (r : RV K F u y) (h : dlook (st a) y = some o) : (∃ v x, o = some x ∧ DGet H a u (some v) ∧ RV K F v x) ∨ (o = none ∧ DGet H a u none) := by
  unfold dlook at h
  split at h
  · rename_i kvs e
    obtain ⟨ws, hw, s⟩ := R.ok a _ e
    cases ek : keyD y with
    | none => rw [ek] at h; cases h
    | some q =>
      rw [ek] at h
      cases h
      rw [key_rv r ek]
      rcases look_rv s q with ⟨v, x, e1, e2, rx⟩ | ⟨e1, e2⟩
      · refine .inl ⟨v, x, e2, ?_, rx⟩
        rw [← e1]
        exact DGet.k hw
      · refine .inr ⟨e2, ?_⟩
        rw [← e1]
        exact DGet.k hw
  · rename_i kvs e
    obtain ⟨ws, hw, s⟩ := R.ok a _ e
    split at h
    · rename_i ys ey
      obtain ⟨b, vs, rfl, hb, sb⟩ := titems_rv r ey
      cases ek : keyT ys with
      | none => rw [ek] at h; cases h
      | some q =>
        rw [ek] at h
        cases h
        have hv := keyT_rv sb ek
        subst hv
        have hb' := (R.sub _ _ hb).1
        rcases look_rv s q with ⟨v, x, e1, e2, rx⟩ | ⟨e1, e2⟩
        · refine .inl ⟨v, x, e2, ?_, rx⟩
          rw [← e1]
          exact DGet.t hw hb'
        · refine .inr ⟨e2, ?_⟩
          rw [← e1]
          exact DGet.t hw hb'
    · cases h
  · rename_i ob ws kvs e
    obtain ⟨hw, s⟩ := R.ok a _ e
    split at h
    · rename_i ys ey
      obtain ⟨b, vs, rfl, hb, sb⟩ := titems_rv r ey
      cases ek : keyT ys with
      | none => rw [ek] at h; cases h
      | some q =>
        rw [ek] at h
        cases h
        have hv := keyT_rv sb ek
        subst hv
        have hb' := (R.sub _ _ hb).1
        rcases look_rv s q with ⟨v, x, e1, e2, rx⟩ | ⟨e1, e2⟩
        · refine .inl ⟨v, x, e2, ?_, rx⟩
          rw [← e1]
          exact .inr ⟨ws, q, b, .inr ⟨ob, hw⟩, rfl, hb', rfl⟩
        · refine .inr ⟨e2, ?_⟩
          rw [← e1]
          exact .inr ⟨ws, q, b, .inr ⟨ob, hw⟩, rfl, hb', rfl⟩
    · cases h
  · cases h
def dput (m : Option MO) (y x : DV) : Option MO := match m with
  | some (.dK kvs) => match keyD y with | some q => if kvs.length < sizeLine then some (.dK (putD kvs q x)) else none | none => none
  | some (.dT kvs) => match titems y with | some ys => (match keyT ys with | some q => if kvs.length < sizeLine then some (.dT (putD kvs q x)) else none | none => none) | none => none
  | _ => none
theorem dput_at {F H : Hp} {st : Sto} {a : Addr} {u v : V} {y x : DV} {m : MO} (R : Rs K F H st) (r : RV K F u y) (rx : RV K F v x) (h : dput (st a) y x = some m) : ∃ H', DPut H a u v H' ∧ Step F H st F H' (up st a m) ∧ Rs K F H' (up st a m) := by
  unfold dput at h
  split at h
  · rename_i kvs e
    obtain ⟨ws, hw, s⟩ := R.ok a _ e
    split at h
    · rename_i q ek
      split at h
      · rename_i hl
        cases h
        rw [key_rv r ek]
        have hl2 : ws.length = kvs.length := Paired.length s
        obtain ⟨R', t⟩ := R.put (o := .dK (putK ws q v)) (m := .dK (putD kvs q x)) e ⟨_, upd_same, put_rv s q rx⟩
        exact ⟨_, DPut.k hw (by omega), t, R'⟩
      · cases h
    · cases h
  · rename_i kvs e
    obtain ⟨ws, hw, s⟩ := R.ok a _ e
    split at h
    · rename_i ys ey
      obtain ⟨b, vs, rfl, hb, sb⟩ := titems_rv r ey
      split at h
      · rename_i q ek
        split at h
        · rename_i hl
          cases h
          have hv := keyT_rv sb ek
          subst hv
          have hl2 : ws.length = kvs.length := Paired.length s
          obtain ⟨R', t⟩ := R.put (o := .dT (putK ws q v)) (m := .dT (putD kvs q x)) e ⟨_, upd_same, put_rv s q rx⟩
          exact ⟨_, DPut.t hw (R.sub _ _ hb).1 (by omega), t, R'⟩
        · cases h
      · cases h
    · cases h
  · cases h
def qDGet : R2D := fun x y st Q => match x with
  | .r a => (match dlook (st a) y with | some (some z) => Q z st | _ => False)
  | _ => False
theorem de_dget {o i : Expr} {pos : Pos} {ta tb : TD} (c : Cok P w K mg base X N sc fs k) (ho : DE X o ta) (hi : DE X i tb) (hs : NoSl i) : DE X (.Subscript o i pos) (qOp qDGet ta tb) := by
  obtain ⟨te, pa, sa⟩ := ho
  obtain ⟨tf, pb, sb⟩ := hi
  refine ⟨⟨_, pe_dget c.hu pa pb hs, Sg.bin (r' := fun x y H Q => ∃ a v, x = .ref a ∧ DGet H a y (some v) ∧ Q v H) sa sb (fun _ _ _ _ e h => RV.mono e h) ?_⟩⟩
  intro F H st v w x y Qd Q R rv rw' h kk
  unfold qDGet at h
  split at h
  · cases rv
    split at h
    · rename_i z e
      rcases dlook_at R rw' e with ⟨v, x, e1, g, rx⟩ | ⟨e1, _⟩
      · cases e1
        exact ⟨_, v, rfl, g, kk.at R rx h⟩
      · cases e1
    · exact h.elim
  · exact h.elim
def qDIn (neg : Bool) : R2D := fun y x st Q => match x with
  | .r a => (match dlook (st a) y with | some o => Q (.d (.bool (if neg then !o.isSome else o.isSome))) st | none => False)
  | _ => False
theorem de_din {i o : Expr} {pos : Pos} {ta tb : TD} (c : Cok P w K mg base X N sc fs k) (hi : DE X i ta) (ho : DE X o tb) (hm : behindInMarks .In o = false := by rfl) : DE X (.Compare i [.In] [o] pos) (qOp (qDIn false) ta tb) := by
  obtain ⟨te, pa, sa⟩ := hi
  obtain ⟨tf, pb, sb⟩ := ho
  refine ⟨⟨_, pe_cmp (pc_din c.hu pa pb) hm, Sg.bin (r' := fun y x H Q => ∃ a o, x = V.ref a ∧ DGet H a y o ∧ Q (V.bl o.isSome) H) sa sb (fun _ _ _ _ e h => RV.mono e h) ?_⟩⟩
  intro F H st v w x y Qd Q R rv rw' h kk
  unfold qDIn at h
  split at h
  · cases rw'
    split at h
    rotate_left
    · exact h.elim
    rename_i z e
    have q := h
    rcases dlook_at R rv e with ⟨v, x, e1, g, rx⟩ | ⟨e1, g⟩
    · subst e1
      exact ⟨_, some v, rfl, g, kk.at R (.d (.bl _)) q⟩
    · subst e1
      exact ⟨_, none, rfl, g, kk.at R (.d (.bl _)) q⟩
  · exact h.elim
theorem dt_dnotin {i o : Expr} {pos : Pos} {ta tb : TD} (c : Cok P w K mg base X N sc fs k) (hi : DE X i ta) (ho : DE X o tb) (hm : behindInMarks .NotIn o = false := by rfl) : DT X (.Compare i [.NotIn] [o] pos) (qTest (qOp (qDIn true) ta tb)) := by
  obtain ⟨te, pa, sa⟩ := hi
  obtain ⟨tf, pb, sb⟩ := ho
  refine ⟨⟨_, pt_cmp (pc_dnotin c.hu pa pb) hm, test_sg (Sg.bin (r' := fun y x H Q => ∃ a o, x = V.ref a ∧ DGet H a y o ∧ Q (V.bl (!o.isSome)) H) sa sb (fun _ _ _ _ e h => RV.mono e h) ?_)⟩⟩
  intro F H st v w x y Qd Q R rv rw' h kk
  unfold qDIn at h
  split at h
  · cases rw'
    split at h
    rotate_left
    · exact h.elim
    rename_i z e
    have q := h
    rcases dlook_at R rv e with ⟨v, x, e1, g, rx⟩ | ⟨e1, g⟩
    · subst e1
      exact ⟨_, some v, rfl, g, kk.at R (.d (.bl _)) q⟩
    · subst e1
      exact ⟨_, none, rfl, g, kk.at R (.d (.bl _)) q⟩
  · exact h.elim
/-- d[k] = v -/
def qDPut (td ty tv : TD) : TDs := fun D ε st => tv ε st fun v s1 => td ε s1 fun x s2 => ty ε s2 fun y s3 => match x with
  | .r a => (match dput (s3 a) y v with | some m => D.nx ε (up s3 a m) | none => False)
  | _ => False
theorem ds_dput {o i value : Expr} {pos pos' : Pos} {td ty tv : TD} (c : Cok P w K mg base X N sc fs k) (ho : DE X o td) (hi : DE X i ty) (hv : DE X value tv) (hs : swapsWith value (some (.Subscript o i pos')) pos.line X.env = pure false) : DS X (.Assign [.Subscript o i pos'] value pos) (qDPut td ty tv) := by
  obtain ⟨t1, p1, a1⟩ := ho
  obtain ⟨t2, p2, a2⟩ := hi
  obtain ⟨t3, p3, a3⟩ := hv
  refine ⟨⟨_, ps_dput c.hu p1 p2 p3 hs, fun F σ H ε st Dd D R E h kk => ?_⟩⟩
  refine a3 F σ H ε st _ _ R E h fun F1 v H1 x s1 st1 R1 r1 q => ?_
  refine a1 F1 σ H1 ε s1 _ _ R1 (E.mono st1.ex) q fun F2 u H2 y s2 st2 R2 r2 q => ?_
  refine a2 F2 σ H2 ε s2 _ _ R2 (E.mono (st1.trans st2).ex) q fun F3 z H3 y' s3 st3 R3 r3 q => ?_
  split at q
  · cases r2
    split at q
    rotate_left
    · exact q.elim
    rename_i m em
    obtain ⟨H4, g, t, R4⟩ := dput_at R3 r3 (r1.mono (st2.trans st3).ex) em
    exact ⟨_, H4, rfl, g, kk.nx F3 σ H4 ε _ (((st1.trans st2).trans st3).trans t) R4 (E.mono ((st1.trans st2).trans st3).ex) q⟩
  · exact q.elim
def qDNew (T : Bool) : TD := fun _ st Q => ∀ p, st p = none → Q (.r p) (up st p (if T then .dT [] else .dK []))
theorem de_dnew {pos : Pos} (T : Bool) : DE X (.Dict [] [] pos) (qDNew T) := by
  cases T with
  | true => exact ⟨⟨_, pe_dnewT, fun F σ H ε st Qd Q R E h kk p hp => by
      obtain ⟨R', t⟩ := R.new (o := .dT []) (m := .dT []) hp ⟨[], upd_same, .nil⟩
      exact kk _ _ _ _ _ t R' (.r p) (h p (R.free hp).2)⟩⟩
  | false => exact ⟨⟨_, pe_dnewK, fun F σ H ε st Qd Q R E h kk p hp => by
      obtain ⟨R', t⟩ := R.new (o := .dK []) (m := .dK []) hp ⟨[], upd_same, .nil⟩
      exact kk _ _ _ _ _ t R' (.r p) (h p (R.free hp).2)⟩⟩
end
end DL
end
section
set_option Elab.async false
set_option linter.all false
set_option maxRecDepth 100000
set_option maxHeartbeats 4000000
namespace DLM
open PySem PySem.Spec
open AutoSeq1 (wpAny_loadPart' idx_int sub_tuple_tuple sub_list_list sub_tuple_list sub_list_tuple)
theorem list_extend_gen (l : Addr) (items : Array Value) (n : Nat) (b : Addr) (items2 : Array Value) (n2 : Nat) (sl : Array (Option Value)) (hc0 : ¬(!items.isEmpty && Builtin.List.listTooLong (items.size + items2.size)) = true) (hc1 : items.size ≤ sizeLine) (hs2 : items.size + items2.size ≤ sizeLine + 1) :
    Meets (Builtin.«list.extend» ⟨[.ref l, .ref b], []⟩) (fun _ R s => s.heap.get? l = some { cls := .type "list", dict := none, data := .seq items n, slots := #[] } ∧ s.heap.get? b = some { cls := .type "list", dict := none, data := .seq items2 n2, slots := sl } ∧ R (.ok (.ret Value.none)) { s with heap := s.heap.update l (Obj.mapSeq fun x => x ++ items2), toks := s.toks }) :=
  .of_wp fun prog w A R s h => by
    obtain ⟨hp, g, d, tk, os⟩ := s; obtain ⟨hl, hb, h⟩ := h; have f1 := idx_int; have f2 := sub_tuple_tuple; have f3 := sub_list_list; have f4 := sub_tuple_list; have f5 := sub_list_tuple;
    have hz' : (items ++ items2).size ≤ sizeLine + 1 := by rw [Array.size_append]; exact hs2
    wp_walk using (wpAny_updateSeq hl rfl (hz := hc1) (_hz' := hz')), wpAny_loadPart' hl, wpAny_loadPart' hb; exact ⟨_, rfl, h⟩
theorem list_extend_genT (l : Addr) (items : Array Value) (n : Nat) (b : Addr) (items2 : Array Value) (n2 : Nat) (dd : Option Addr) (sl : Array (Option Value)) (hc0 : ¬(!items.isEmpty && Builtin.List.listTooLong (items.size + items2.size)) = true) (hc1 : items.size ≤ sizeLine) (hs2 : items.size + items2.size ≤ sizeLine + 1) :
    Meets (Builtin.«list.extend» ⟨[.ref l, .ref b], []⟩) (fun _ R s => s.heap.get? l = some { cls := .type "list", dict := none, data := .seq items n, slots := #[] } ∧ s.heap.get? b = some { cls := .type "tuple", dict := dd, data := .seq items2 n2, slots := sl } ∧ R (.ok (.ret Value.none)) { s with heap := s.heap.update l (Obj.mapSeq fun x => x ++ items2), toks := s.toks }) :=
  .of_wp fun prog w A R s h => by
    obtain ⟨hp, g, d, tk, os⟩ := s; obtain ⟨hl, hb, h⟩ := h; have f1 := idx_int; have f2 := sub_tuple_tuple; have f3 := sub_list_list; have f4 := sub_tuple_list; have f5 := sub_list_tuple;
    have hz' : (items ++ items2).size ≤ sizeLine + 1 := by rw [Array.size_append]; exact hs2
    wp_walk using (wpAny_updateSeq hl rfl (hz := hc1) (_hz' := hz')), wpAny_loadPart' hl, wpAny_loadPart' hb; exact ⟨_, rfl, h⟩
end DLM
namespace DL
open PySem L2 PyProof.Rows
variable [tB : Tb] [gR : Gr]
section
variable {P : Program} {w : World} {K : PySem.W.Frag} {mg : Str → Option Value} {base : Heap} {X : Cx} {N : List Str} {sc fs : Scope} {k : Nat}
def qPairs : List (Str × TD) → Env → Sto → (List (Key × DV) → Sto → Prop) → Prop
  | [], _, st, Q => Q [] st
  | (x, t) :: r, ε, st, Q => t ε st fun v s1 => qPairs r ε s1 fun ps s2 => Q ((.inr x, v) :: ps) s2
structure DPs (X : Cx) (pos : Pos) (keys : List (Option Expr)) (values : List Expr) (l : List (Str × TD)) : Prop where
  ex : ∃ trs, PPs X pos keys values trs ∧ ∀ F σ H ε st Qd (Q : List (V × V) → Hp → Prop), Rs X.K F H st → RE X.K F σ ε → qPairs l ε st Qd →
    (∀ F' H' (ps : List (Key × V)) qs st', Step F H st F' H' st' → Rs X.K F' H' st' → PR X.K F' ps qs → Qd qs st' → Q (ps.map fun kv => (kV kv.1, kv.2)) H') → tPairs trs σ H Q
theorem dps_nil {pos : Pos} : DPs X pos [] [] [] := ⟨⟨[], pps_nil, fun F σ H ε st Qd Q R E h kk => kk F H [] [] st (Step.refl _ _ _) R .nil h⟩⟩
theorem dps_cons {pos p2 : Pos} {x : Str} {j : Nat} {v : Expr} {ks : List (Option Expr)} {vs : List Expr} {t : TD} {l : List (Str × TD)} (hv : DE X v t) (hr : DPs X pos ks vs l) : DPs X pos (some (.Constant (.str x) j p2) :: ks) (v :: vs) ((x, t) :: l) := by
  obtain ⟨t1, p1, a1⟩ := hv
  obtain ⟨trs, p3, a3⟩ := hr
  refine ⟨⟨_, pps_cons pe_str p1 p3, fun F σ H ε st Qd Q R E h kk => ?_⟩⟩
  refine a1 F σ H ε st _ _ R E h fun F1 v H1 y s1 st1 R1 r q => ?_
  exact a3 F1 σ H1 ε s1 _ _ R1 (E.mono st1.ex) q fun F2 H2 ps qs s2 st2 R2 rr q2 => kk F2 H2 ((.inr x, v) :: ps) ((.inr x, y) :: qs) s2 (st1.trans st2) R2 (.cons ⟨rfl, r.mono st2.ex⟩ rr) q2
def mergeD (kvs more : List (Key × DV)) : List (Key × DV) := more.foldl (fun acc kv => putD acc kv.1 kv.2) kvs
theorem merge_rv {F : Hp} : ∀ {more : List (Key × V)} {moreD : List (Key × DV)} {kvs : List (Key × V)} {kvsD : List (Key × DV)}, PR K F more moreD → PR K F kvs kvsD → PR K F (mergeK kvs more) (mergeD kvsD moreD)
  | _, _, _, _, .nil, h => h
  | a :: _, b :: _, _, _, .cons r t, h => by
    have e := r.1
    have := merge_rv t (put_rv h a.1 r.2)
    unfold mergeK mergeD at this ⊢
    rw [List.foldl_cons, List.foldl_cons, ← e]
    exact this
def qDisp (l : List (Str × TD)) : TD := fun ε st Q => qPairs l ε st fun qs s1 => qs.length ≤ 15 ∧ ∀ p, s1 p = none → Q (.r p) (up s1 p (.dK (mergeD [] qs)))
theorem de_disp {pos : Pos} {keys : List (Option Expr)} {values : List Expr} {l : List (Str × TD)} (h : DPs X pos keys values l) (hall : keys.all (·.isSome) = true) (hl : keys.length = values.length) (h0 : keys ≠ []) (h15 : keys.length ≤ 15) : DE X (.Dict keys values pos) (qDisp l) := by
  obtain ⟨trs, p, a⟩ := h
  refine ⟨⟨_, pe_disp p hall hl h0 h15, fun F σ H ε st Qd Q R E h kk p hp => ?_⟩⟩
  obtain ⟨f0, s0⟩ := R.free hp
  obtain ⟨R', t'⟩ := R.hide (o := .dK []) hp
  refine a F σ _ ε st _ _ R' E h fun F1 H1 ps qs s1 t1 R1 rr ⟨h15', q⟩ => ?_
  obtain ⟨hp1, f1, d1⟩ := t1.hid upd_same f0 s0
  have hlen : ps.length = qs.length := Paired.length rr
  refine ⟨hp1, ps, rfl, by omega, ?_⟩
  have R2 := R1.hput (o := .dK (mergeK [] ps)) f1 d1 hp1 R (t'.trans t1) hp
  have t2 : Step F H st F1 (upd H1 p (.dK (mergeK [] ps))) s1 := (t'.trans t1).hput hp
  have ss : Step F H st F1 (upd H1 p (.dK (mergeK [] ps))) (up s1 p (.dK (mergeD [] qs))) := t2.seen hp
  refine kk F1 (.ref p) _ (.r p) (up s1 p (.dK (mergeD [] qs))) ss (R.by ⟨fun a u ha => ?_, fun a m ha => ?_, R2.tb.up upd_same⟩ ss) (.r p) (q p d1)
  · rw [up_ne (fun z => by rw [z, f1] at ha; cases ha)]; exact R2.sub a u ha
  · by_cases z : a = p
    · subst z; rw [up_same] at ha; cases ha; exact ⟨_, upd_same, merge_rv rr .nil⟩
    · rw [up_ne z] at ha; exact R2.ok a m ha
theorem mt_extendA : MtM X "list.extend" (fun x vs H Q => ∃ l b xs zs, x = .ref l ∧ vs = [.ref b] ∧ H l = some (.lst xs) ∧ (SqL X.K H b zs ∨ SqT X.K H b zs) ∧ xs.length + zs.length ≤ sizeLine ∧ Q .non (upd H l (.lst (xs ++ zs)))) := by
  intro pins s σ H x vs v us Q I rx rv h
  obtain ⟨l, b, xs, zs, rfl, rfl, hH, hB, hz, q⟩ := h
  cases rx
  obtain ⟨u, rfl, ru⟩ := rv.one
  cases ru
  obtain ⟨z, its, n, r, hl, e⟩ := I.lstM hH
  rcases hB with hB | hB
  · obtain ⟨its2, r2, ⟨⟨cls2, dd2, data2, sl2⟩, n2, ho2, hc2, hd02, hd2⟩, hs2⟩ := I.list hB
    simp only at hc2 hd02 hd2
    subst hc2 hd02 hd2
    have hl2 := r2.length
    have hsz : its.toArray.size + its2.toArray.size ≤ sizeLine := by rw [List.size_toArray, List.size_toArray]; omega
    have hlong : ¬ (!its.toArray.isEmpty && Builtin.List.listTooLong (its.toArray.size + its2.toArray.size)) = true := by
      rw [notLongL hsz, Bool.and_false]
      exact Bool.false_ne_true
    refine call_meets F.slot_list_extend ⟨_, e, rfl⟩ F.entry_list_extend (F.args_list_extend_2 _ _)
      (DLM.list_extend_gen l its.toArray n b its2.toArray n2 sl2 hlong (by rw [List.size_toArray]; omega) (by omega)) ⟨e, ho2, ?_⟩
    refine ⟨.non, _, I.lset (its' := its ++ its2) hH e (by simp) (r.append r2) ?_, rfl, q⟩
    rw [List.length_append]
    omega
  · obtain ⟨its2, r2, ⟨⟨cls2, dd2, data2, sl2⟩, ho2, hc2, n2, hd2⟩, hs2⟩ := I.tuple hB
    simp only at hc2 hd2
    subst hc2 hd2
    have hl2 := r2.length
    have hsz : its.toArray.size + its2.toArray.size ≤ sizeLine := by rw [List.size_toArray, List.size_toArray]; omega
    have hlong : ¬ (!its.toArray.isEmpty && Builtin.List.listTooLong (its.toArray.size + its2.toArray.size)) = true := by
      rw [notLongL hsz, Bool.and_false]
      exact Bool.false_ne_true
    refine call_meets F.slot_list_extend ⟨_, e, rfl⟩ F.entry_list_extend (F.args_list_extend_2 _ _)
      (DLM.list_extend_genT l its.toArray n b its2.toArray n2 dd2 sl2 hlong (by rw [List.size_toArray]; omega) (by omega)) ⟨e, ho2, ?_⟩
    refine ⟨.non, _, I.lset (its' := its ++ its2) hH e (by simp) (r.append r2) ?_, rfl, q⟩
    rw [List.length_append]
    omega
/-- xs.append(e), xs.extend(e) as a statement's expression -/
def qAppend (to te : TD) : TD := fun ε st Q => to ε st fun x s1 => match x with
  | .r a => (∃ xs, s1 a = some (.lst xs)) ∧ te ε s1 fun y s2 => ∃ xs, s2 a = some (.lst xs) ∧ xs.length < sizeLine ∧ Q (.d .none) (up s2 a (.lst (xs ++ [y])))
  | _ => False
theorem de_append {o e : Expr} {to te : TD} {apos cpos : Pos} (ho : DE X o to) (he : DE X e te) (hbase : attributeBase o "append" X.env (eval o X.env) = eval o X.env := by rfl)
    (hfew : ((backTo cpos (starEach [e] X.env)).all (fun x => !x.1) && (backToKw cpos (keywordEach [] X.env)).all (fun x => x.1.isSome)
      && decide ([e].length + ([] : List Keyword).length + (if ([] : List Keyword).isEmpty then 0 else 1) < 30)) = true := by rfl)
    (hline : (apos.endLine == cpos.line) = true := by rfl) (hs : starEach [e] X.env = (false, eval e X.env) :: starEach [] X.env := by rfl) : DE X (.Call (.Attribute o "append" apos) [e] [] cpos) (qAppend to te) := by
  obtain ⟨t1, p1, a1⟩ := ho
  obtain ⟨t2, p2, a2⟩ := he
  refine ⟨⟨_, pe_bm PySem.F.plainAttrs_list PySem.F.slot_list_append PySem.F.type_list_append mt_append p1 (pa_cons p2 pa_nil hs) hbase hfew hline hs rfl, fun F σ H ε st Qd Q R E h kk => ?_⟩⟩
  refine a1 F σ H ε st _ _ R E h fun F1 v H1 x s1 st1 R1 r q => ?_
  split at q
  · cases r
    obtain ⟨⟨xs0, e0⟩, q⟩ := q
    obtain ⟨vs0, hv0, _⟩ := R1.ok _ _ e0
    refine ⟨Or.inl ⟨rfl, _, SqL.of hv0⟩, a2 F1 σ H1 ε s1 _ _ R1 (E.mono st1.ex) q fun F2 u H2 y s2 st2 R2 r2 ⟨xs, ex, hl, q⟩ => ?_⟩
    obtain ⟨vs, hv, s⟩ := R2.ok _ _ ex
    have hlen := s.length
    obtain ⟨R3, t3⟩ := R2.put (o := .lst (vs ++ [u])) (m := .lst (xs ++ [y])) ex ⟨_, upd_same, s.append (.cons r2 .nil)⟩
    exact ⟨_, vs, u, rfl, rfl, hv, by omega, kk F2 _ _ (.d .none) _ ((st1.trans st2).trans t3) R3 (.d .non) q⟩
  · exact q.elim
def qExtend (to te : TD) : TD := fun ε st Q => to ε st fun x s1 => match x with
  | .r a => (∃ xs, s1 a = some (.lst xs)) ∧ te ε s1 fun y s2 => ∃ xs ys, s2 a = some (.lst xs) ∧ sitems s2 y = some ys ∧ xs.length + ys.length ≤ sizeLine ∧ Q (.d .none) (up s2 a (.lst (xs ++ ys)))
  | _ => False
theorem de_extend {o e : Expr} {to te : TD} {apos cpos : Pos} (ho : DE X o to) (he : DE X e te) (hbase : attributeBase o "extend" X.env (eval o X.env) = eval o X.env := by rfl)
    (hfew : ((backTo cpos (starEach [e] X.env)).all (fun x => !x.1) && (backToKw cpos (keywordEach [] X.env)).all (fun x => x.1.isSome)
      && decide ([e].length + ([] : List Keyword).length + (if ([] : List Keyword).isEmpty then 0 else 1) < 30)) = true := by rfl)
    (hline : (apos.endLine == cpos.line) = true := by rfl) (hs : starEach [e] X.env = (false, eval e X.env) :: starEach [] X.env := by rfl) : DE X (.Call (.Attribute o "extend" apos) [e] [] cpos) (qExtend to te) := by
  obtain ⟨t1, p1, a1⟩ := ho
  obtain ⟨t2, p2, a2⟩ := he
  refine ⟨⟨_, pe_bm PySem.F.plainAttrs_list PySem.F.slot_list_extend PySem.F.type_list_extend mt_extendA p1 (pa_cons p2 pa_nil hs) hbase hfew hline hs rfl, fun F σ H ε st Qd Q R E h kk => ?_⟩⟩
  refine a1 F σ H ε st _ _ R E h fun F1 v H1 x s1 st1 R1 r q => ?_
  split at q
  · cases r
    obtain ⟨⟨xs0, e0⟩, q⟩ := q
    obtain ⟨vs0, hv0, _⟩ := R1.ok _ _ e0
    refine ⟨Or.inl ⟨rfl, _, SqL.of hv0⟩, a2 F1 σ H1 ε s1 _ _ R1 (E.mono st1.ex) q fun F2 u H2 y s2 st2 R2 r2 ⟨xs, ys, ex, ey, hl, q⟩ => ?_⟩
    obtain ⟨vs, hv, s⟩ := R2.ok _ _ ex
    obtain ⟨b, ws, rfl, hq, s2'⟩ := sitems_rv R2 r2 ey
    have hlen := s.length
    have hlen2 := s2'.length
    obtain ⟨R3, t3⟩ := R2.put (o := .lst (vs ++ ws)) (m := .lst (xs ++ ys)) ex ⟨_, upd_same, s.append s2'⟩
    exact ⟨_, b, vs, ws, rfl, rfl, hv, hq, by omega, kk F2 _ _ (.d .none) _ ((st1.trans st2).trans t3) R3 (.d .non) q⟩
  · exact q.elim
end
end DL
end
section
set_option Elab.async false
set_option linter.all false
set_option maxRecDepth 100000
set_option maxHeartbeats 4000000
namespace DL
open PySem L2 PyProof.Rows
variable [tB : Tb] [gR : Gr]
theorem bb_len : bootBuiltins "len" = some (.builtin "len") := by decide +kernel
theorem bb_sum : bootBuiltins "sum" = some (.builtin "sum") := by decide +kernel
theorem bb_max : bootBuiltins "max" = some (.builtin "max") := by decide +kernel
theorem bb_min : bootBuiltins "min" = some (.builtin "min") := by decide +kernel
theorem bb_any : bootBuiltins "any" = some (.builtin "any") := by decide +kernel
theorem bb_all : bootBuiltins "all" = some (.builtin "all") := by decide +kernel
theorem bb_sorted : bootBuiltins "sorted" = some (.builtin "sorted") := by decide +kernel
theorem bt_tuple : bootBuiltins "tuple" = some (.type "tuple") := by decide +kernel
theorem bt_list : bootBuiltins "list" = some (.type "list") := by decide +kernel
theorem bt_int : bootBuiltins "int" = some (.type "int") := by decide +kernel
theorem bt_bool : bootBuiltins "bool" = some (.type "bool") := by decide +kernel
theorem bt_set : bootBuiltins "set" = some (.type "set") := by decide +kernel
section
variable {P : Program} {w : World} {K : PySem.W.Frag} {mg : Str → Option Value} {base : Heap} {X : Cx} {N : List Str} {sc fs : Scope} {k : Nat}
/-- a def of the text that keeps a promise -/
def Cl (P : Program) (w : World) (K : PySem.W.Frag) (mg : Str → Option Value) (base : Heap) (x : Str) (j : Nat) (sp : SpD) : Prop :=
  ∃ (f : Addr) (fd : FuncData) (ps : List Str), mg x = some (.ref f) ∧ PySem.W.keepIn K (.ref f) = true ∧ FnOk P w K mg base CX0 j f fd ps (hsp K sp) ∧ Binds K fd ps []
theorem de_callC {x : Str} {e : Expr} {es : List Expr} {ta : TDa} {p pos : Pos} {sp : SpD} {j : Nat} (c : Cok P w K mg base X N sc fs k) (hg : glB sc x = true) (C : Cl P w K mg base x j sp) (hj : j ≤ k)
    (ha : DA X (e :: es) ta) (he : starEach (e :: es) X.env = (false, eval e X.env) :: starEach es X.env := by rfl) (hpl : (backTo pos (starEach es X.env)).any (·.1) = false := by rfl) : DE X (.Call (.Name x p) (e :: es) [] pos) (qCall sp ta) := by
  obtain ⟨f, fd, ps, hm, hk, G, b⟩ := C
  exact de_call c hg hm hk G hj b ha he hpl
theorem de_gint {x : Str} {i : Int} {pos : Pos} (c : Cok P w K mg base X N sc fs k) (hg : glB sc x = true) (hm : ∃ t, mg x = some (.int i t)) : DE X (.Name x pos) (qc (.d (.int i))) := by
  obtain ⟨t, hm⟩ := hm
  have g := gl_of c hg
  exact ⟨⟨_, pe_glob g.1 (by rw [c.hmg]; exact hm) (v := .int i) ⟨t, rfl⟩ g.2.2, fun F σ H ε st Qd Q R E q kk => kk.at R (.d (.int i)) q⟩⟩
theorem Cok.hu65 (c : Cok P w K mg base X N sc fs k) : X.A.units + 64 < cLine := c.hu64
theorem rp_all : ∀ {F : Hp} (ns : List Int), RpAll K F (ns.map V.int) (ns.map .int)
  | _, [] => .nil
  | _, n :: ns => .cons (.int n) (rp_all ns)
/-- [f x for x in xs if p x], nothing of the store touched -/
theorem comp_fm {inv : Sto → Prop} {g : TDg} {tt : TDt} {te : TD} {ε : Env} {Kc : List DV → Sto → Prop} {st : Sto} (p : DV → Bool) (f : DV → DV) (hi : inv st) : ∀ (xs acc : List DV),
    (∀ x ∈ xs, ∀ (Q1 : DV → Sto → Prop) (Q2 : Sto → Prop), (if p x = true then Q1 (f x) st else Q2 st) → g x ε st fun ε1 s1 => tt ε1 s1 fun b s2 => if b = true then te ε1 s2 Q1 else Q2 s2) → Kc (acc ++ (xs.filter p).map f) st → qComp inv g tt te ε Kc xs acc st
  | [], acc, _, h => ⟨hi, by rw [List.filter_nil, List.map_nil, List.append_nil] at h; exact h⟩
  | x :: xs, acc, hx, h => by
    refine ⟨hi, ?_⟩
    refine hx x List.mem_cons_self (fun y s3 => qComp inv g tt te ε Kc xs (acc ++ [y]) s3) (fun s2 => qComp inv g tt te ε Kc xs acc s2) ?_
    cases e : p x with
    | true =>
      rw [if_pos rfl]
      refine comp_fm p f hi xs (acc ++ [f x]) (fun y hy => hx y (List.mem_cons_of_mem _ hy)) ?_
      rw [List.filter_cons, if_pos e, List.map_cons] at h
      rw [List.append_assoc]
      exact h
    | false =>
      rw [if_neg Bool.false_ne_true]
      refine comp_fm p f hi xs acc (fun y hy => hx y (List.mem_cons_of_mem _ hy)) ?_
      rw [List.filter_cons, if_neg (by rw [e]; exact Bool.false_ne_true)] at h
      exact h
theorem seq {t u : TDs} {D : EndsD} {ε : Env} {st : Sto} (h : ∀ N : Env → Sto → Prop, (∀ ε s, u D ε s → N ε s) → t { D with nx := N } ε st) : qSeq t u D ε st := h _ fun _ _ x => x
/-- a for, its items known -/
theorem for_by {inv : Sto → Prop} {g : TDg} {tb : TDs} {D : EndsD} {xs : List DV} {ε : Env} {st : Sto} (W : List DV → Env → Sto → Prop) (h0 : W xs ε st) (hi : ∀ ys ε st, W ys ε st → inv st)
    (hs : ∀ x ys ε st, x ∈ xs → W (x :: ys) ε st → ∀ L : Env → Sto → Prop, (∀ ε' st', W ys ε' st' → L ε' st') → g x ε st fun ε1 s1 => tb { D with nx := L, ct := L, bk := D.nx } ε1 s1) (hd : ∀ ε st, W [] ε st → D.nx ε st) : qLoop inv g tb D xs ε st := by
  have : ∀ ys ε st, (∀ y ∈ ys, y ∈ xs) → W ys ε st → qLoop inv g tb D ys ε st := by
    intro ys
    induction ys with
    | nil => exact fun ε st _ h => ⟨hi _ _ _ h, hd _ _ h⟩
    | cons y ys ih => exact fun ε st hy h => ⟨hi _ _ _ h, hs y ys ε st (hy y List.mem_cons_self) h _ fun ε' st' => ih ε' st' fun z hz => hy z (List.mem_cons_of_mem _ hz)⟩
  exact this xs ε st (fun _ z => z) h0
end
end DL
end
section
set_option Elab.async false
set_option linter.all false
set_option maxRecDepth 100000
set_option maxHeartbeats 4000000
namespace DL
open PySem L2 PyProof.Rows
def lexL : List Int → List Int → Bool
  | [], [] => false
  | [], _ :: _ => true
  | _ :: _, [] => false
  | x :: xs, y :: ys => decide (x < y) || (decide (x = y) && lexL xs ys)
theorem lexL_irr : ∀ x : List Int, lexL x x = false
  | [] => rfl
  | x :: xs => by simp [lexL, lexL_irr xs]
theorem lexL_tr : ∀ {x y z : List Int}, lexL x y = true → lexL y z = true → lexL x z = true
  | [], [], _, h, _ => by cases h
  | [], _ :: _, [], _, h => by cases h
  | [], _ :: _, _ :: _, _, _ => rfl
  | _ :: _, [], _, h, _ => by cases h
  | _ :: _, _ :: _, [], _, h => by cases h
  | x :: xs, y :: ys, z :: zs, h1, h2 => by
    simp only [lexL, Bool.or_eq_true, Bool.and_eq_true, decide_eq_true_eq] at h1 h2 ⊢
    rcases h1 with h1 | ⟨h1, h3⟩ <;> rcases h2 with h2 | ⟨h2, h4⟩
    · exact .inl (by omega)
    · exact .inl (by omega)
    · exact .inl (by omega)
    · exact .inr ⟨by omega, lexL_tr h3 h4⟩
theorem lexL_tri : ∀ (x y : List Int), lexL x y = true ∨ x = y ∨ lexL y x = true
  | [], [] => .inr (.inl rfl)
  | [], _ :: _ => .inl rfl
  | _ :: _, [] => .inr (.inr rfl)
  | x :: xs, y :: ys => by
    simp only [lexL, Bool.or_eq_true, Bool.and_eq_true, decide_eq_true_eq, List.cons.injEq]
    rcases Int.lt_trichotomy x y with h | h | h
    · exact .inl (.inl h)
    · rcases lexL_tri xs ys with k | k | k
      · exact .inl (.inr ⟨h, k⟩)
      · exact .inr (.inl ⟨h, k⟩)
      · exact .inr (.inr (.inr ⟨h.symm, k⟩))
    · exact .inr (.inr (.inl h))
/-- strictly rising -/
abbrev RisL (l : List (List Int)) : Prop := l.Pairwise fun x y => lexL x y = true
def insU (x : List Int) : List (List Int) → List (List Int)
  | [] => [x]
  | y :: l => if x = y then y :: l else if lexL x y = true then x :: y :: l else y :: insU x l
def sortU (l : List (List Int)) : List (List Int) := l.foldr insU []
theorem mem_insU {x z : List Int} : ∀ {l : List (List Int)}, z ∈ insU x l ↔ z = x ∨ z ∈ l
  | [] => by simp [insU]
  | y :: l => by
    unfold insU
    split
    · rename_i h
      subst h
      simp
    · split
      · simp
      · simp only [List.mem_cons, mem_insU (l := l)]
        constructor
        · rintro (h | h | h)
          · exact .inr (.inl h)
          · exact .inl h
          · exact .inr (.inr h)
        · rintro (h | h | h)
          · exact .inr (.inl h)
          · exact .inl h
          · exact .inr (.inr h)
theorem ris_insU {x : List Int} : ∀ {l : List (List Int)}, RisL l → RisL (insU x l)
  | [], _ => List.pairwise_singleton _ _
  | y :: l, h => by
    obtain ⟨h1, h2⟩ := List.pairwise_cons.mp h
    unfold insU
    split
    · exact h
    · rename_i hne
      split
      · rename_i hl
        refine List.pairwise_cons.mpr ⟨fun z hz => ?_, h⟩
        rcases List.mem_cons.mp hz with rfl | hz
        · exact hl
        · exact lexL_tr hl (h1 z hz)
      · rename_i hl
        refine List.pairwise_cons.mpr ⟨fun z hz => ?_, ris_insU h2⟩
        rcases mem_insU.mp hz with rfl | hz
        · rcases lexL_tri z y with k | k | k
          · exact absurd k hl
          · exact absurd k hne
          · exact k
        · exact h1 z hz
theorem mem_sortU {z : List Int} : ∀ {l : List (List Int)}, z ∈ sortU l ↔ z ∈ l
  | [] => Iff.rfl
  | x :: l => by
    show z ∈ insU x (sortU l) ↔ _
    rw [mem_insU, mem_sortU (l := l), List.mem_cons]
theorem ris_sortU : ∀ (l : List (List Int)), RisL (sortU l)
  | [] => List.Pairwise.nil
  | x :: l => ris_insU (ris_sortU l)
theorem ris_eq : ∀ {l m : List (List Int)}, RisL l → RisL m → (∀ x, x ∈ l ↔ x ∈ m) → l = m
  | [], [], _, _, _ => rfl
  | [], y :: m, _, _, h => absurd ((h y).mpr List.mem_cons_self) (by simp)
  | x :: l, [], _, _, h => absurd ((h x).mp List.mem_cons_self) (by simp)
  | x :: l, y :: m, hl, hm, h => by
    obtain ⟨l1, l2⟩ := List.pairwise_cons.mp hl
    obtain ⟨m1, m2⟩ := List.pairwise_cons.mp hm
    have e : x = y := by
      rcases List.mem_cons.mp ((h x).mp List.mem_cons_self) with e | hx
      · exact e
      · rcases List.mem_cons.mp ((h y).mpr List.mem_cons_self) with e | hy
        · exact e.symm
        · have := lexL_tr (l1 y hy) (m1 x hx)
          rw [lexL_irr] at this
          cases this
    subst e
    refine congrArg (x :: ·) (ris_eq l2 m2 fun z => ?_)
    constructor
    · intro hz
      rcases List.mem_cons.mp ((h z).mp (List.mem_cons_of_mem _ hz)) with e | hz'
      · subst e
        have := l1 z hz
        rw [lexL_irr] at this
        cases this
      · exact hz'
    · intro hz
      rcases List.mem_cons.mp ((h z).mpr (List.mem_cons_of_mem _ hz)) with e | hz'
      · subst e
        have := m1 z hz
        rw [lexL_irr] at this
        cases this
      · exact hz'
theorem sortU_eq {l m : List (List Int)} (hm : RisL m) (h : ∀ x, x ∈ l ↔ x ∈ m) : sortU l = m := ris_eq (ris_sortU l) hm fun x => mem_sortU.trans (h x)
theorem sortU_len : ∀ (l : List (List Int)), (sortU l).length ≤ l.length := by
  have : ∀ (x : List Int) (l : List (List Int)), (insU x l).length ≤ l.length + 1 := by
    intro x l
    induction l with
    | nil => simp [insU]
    | cons y l ih =>
      unfold insU
      split
      · simp
      · split
        · simp
        · simp; omega
  intro l
  induction l with
  | nil => exact Nat.le_refl _
  | cons x l ih =>
    have := this x (sortU l)
    show (insU x (sortU l)).length ≤ _
    rw [List.length_cons]
    omega
def tints : List DV → Option (List (List Int))
  | [] => some []
  | .d (.tuple xs) :: r => (match dints (xs.map .d) with | some a => (tints r).map (a :: ·) | none => none)
  | _ :: _ => none
theorem tints_map : ∀ l : List (List Int), tints ((l.map fun a => PyData.tuple (a.map .int)).map .d) = some l
  | [] => rfl
  | a :: l => by
    have e : dints ((a.map PyData.int).map DV.d) = some a := by rw [List.map_map]; exact dints_map a
    rw [List.map_cons, List.map_cons, tints, e, tints_map l]
    rfl
section
variable {P : Program} {w : World} {K : PySem.W.Frag} {mg : Str → Option Value} {base : Heap} {X : Cx} {N : List Str} {sc fs : Scope} {k : Nat}
theorem tints_rvs {F : Hp} : ∀ {vs : List V} {xs : List DV} {ts : List (List Int)}, RVs K F vs xs → tints xs = some ts → ∃ ks : List (Addr × List Int), vs = ks.map (fun p => V.ref p.1) ∧ ts = ks.map (·.2) ∧ ∀ p ∈ ks, F p.1 = some (.tup (p.2.map V.int))
  | _, [], ts, r, h => by cases h; cases r; exact ⟨[], rfl, rfl, fun p hp => nomatch hp⟩
  | v :: vs, .d (.tuple ds) :: xs, ts, .cons r q, h => by
    unfold tints at h
    split at h
    · rename_i a ea
      cases e : tints xs with
      | none => rw [e] at h; cases h
      | some l =>
        rw [e] at h
        cases h
        obtain ⟨ks, h1, h2, h3⟩ := tints_rvs q e
        cases r with
        | d r =>
          cases r with
          | tup q2 s2 =>
            rename_i p ws
            obtain ⟨e1, _⟩ := dints_rvs s2.rvs ea
            subst e1
            refine ⟨(p, a) :: ks, by rw [h1]; rfl, by rw [h2]; rfl, fun z hz => ?_⟩
            rcases List.mem_cons.mp hz with e | hz
            · rw [e]; exact q2
            · exact h3 z hz
    · cases h
  | _, .d .none :: _, _, _, h => by cases h
  | _, .d (.bool _) :: _, _, _, h => by cases h
  | _, .d (.int _) :: _, _, _, h => by cases h
  | _, .d (.str _) :: _, _, _, h => by cases h
  | _, .d (.list _) :: _, _, _, h => by cases h
  | _, .d (.dict _) :: _, _, _, h => by cases h
  | _, .r _ :: _, _, _, h => by cases h
  | _, .t _ :: _, _, _, h => by cases h
end
end DL
end
section
set_option Elab.async false
set_option linter.all false
set_option maxRecDepth 100000
set_option maxHeartbeats 4000000
namespace DL
open PySem L2 PyProof.Rows
variable [tB : Tb] [gR : Gr]
section
variable {P : Program} {w : World} {K : PySem.W.Frag} {mg : Str → Option Value} {base : Heap} {X : Cx} {N : List Str} {sc fs : Scope} {k : Nat}
theorem readsAll_of {h : Heap} : ∀ {vs : List Value} {ns : List Int}, IntsAre vs ns → ReadsAll h vs (ns.map .int) []
  | _, _, .nil => .nil
  | _, _, .cons n t r => .cons (.int n t) (readsAll_of r)
def rMax1 (K : PySem.W.Frag) : List V → Hp → VK → Prop := fun vs H Q => ∃ (a : Addr) (n : Int) (ns : List Int), vs = [V.ref a] ∧ (SqL K H a ((n :: ns).map V.int) ∨ SqT K H a ((n :: ns).map V.int)) ∧ Q (.int (ns.foldl max n)) H
theorem alike_ints (ns : List Int) : PySem.W.AlikeAll (ns.map PyData.int) := PySem.W.alikeAll_datum ns
theorem dep_ints : ∀ ns : List Int, PyData.depthAll (ns.map PyData.int) = 0
  | [] => rfl
  | n :: ns => by
    simp only [List.map_cons, PyData.depthAll, PyData.depth, dep_ints ns]
    rfl
theorem cr_max1 (hc : X.calm = true) (hu : X.A.units + 64 < cLine) : CallR X (.builtin "max") (rMax1 X.K) := by
  intro pins s σ H vs us Q I r h
  obtain ⟨a, n, ns, rfl, hs, q⟩ := h
  rw [Vals.ref1 r]
  have fin : ∀ (v : Value) h' tk bs, PySem.Reads h' v (PySem.W.maxD (.int n) (ns.map .int)) bs → (∀ b o, s.heap.get? b = some o → h'.get? b = some o) → ∃ x H', Inv X pins σ H' { s with heap := h', toks := tk } ∧ RelV x v ∧ Q x H' := by
    intro v h' tk bs hr hk
    rw [PySem.W.maxD_ints] at hr
    cases hr with
    | int _ t => exact ⟨.int _, H, I.kept fun b o e => hk b o e, ⟨t, rfl⟩, q⟩
  rcases hs with hs | hs
  · obtain ⟨its, rv, hl, _⟩ := I.list hs
    exact PySem.W.max_list_data (I.ok.hd hc) hl.isList (readsAll_of rv.ints) (alike_ints (n :: ns)) (by rw [← List.map_cons, dep_ints]; omega) fun i v h' tk bs _ hr hk => fin v h' tk bs hr hk
  · obtain ⟨its, rv, ⟨ol, o1, o2, m, o3⟩, _⟩ := I.tuple hs
    exact PySem.W.max_tuple_data (I.ok.hd hc) ⟨ol, o1, o2, m, o3⟩ (readsAll_of rv.ints) (alike_ints (n :: ns)) (by rw [← List.map_cons, dep_ints]; omega) fun i v h' tk bs _ hr hk => fin v h' tk bs hr hk
def qMax1 : RLD := fun xs st Q => match xs with
  | [x] => (match (sitems st x).bind dints with | some (n :: ns) => Q (.d (.int (ns.foldl max n))) st | _ => False)
  | _ => False
def qMin1 : RLD := fun xs st Q => match xs with
  | [x] => (match (sitems st x).bind dints with | some (n :: ns) => Q (.d (.int (ns.foldl min n))) st | _ => False)
  | _ => False
theorem c_max1 (hc : X.calm = true) (hu : X.A.units + 64 < cLine) : ∃ r', CallR X (.builtin "max") r' ∧ SL X.K r' qMax1 := by
  refine ⟨_, cr_max1 hc hu, ?_⟩
  intro F H st vs xs Qd Q R rv h kk
  unfold qMax1 at h
  split at h
  rotate_left
  · exact h.elim
  obtain ⟨v, rfl, r⟩ := rvs1 rv
  split at h
  rotate_left
  · exact h.elim
  rename_i n ns e
  obtain ⟨l, e1, e2⟩ := Option.bind_eq_some_iff.mp e
  obtain ⟨p, ys, rfl, hq, s⟩ := sitems_rv R r e1
  obtain ⟨rfl, _⟩ := dints_rvs s e2
  exact ⟨p, n, ns, rfl, hq, kk.at R (.d (.int _)) h⟩
end
end DL
end
section
set_option Elab.async false
set_option linter.all false
set_option maxRecDepth 100000
set_option maxHeartbeats 4000000
namespace DL
open PySem L2 PyProof.Rows
variable [tB : Tb] [gR : Gr]
section
variable {P : Program} {w : World} {K : PySem.W.Frag} {mg : Str → Option Value} {base : Heap} {X : Cx} {N : List Str} {sc fs : Scope} {k : Nat}
/-- [e for x in a if .. for y in b if ..] -/
def qCompO (inv : Sto → Prop) (g : TDg) (tt : TDt) (ti1 : TDi) (g1 : TDg) (tt1 : TDt) (te : TD) (vs1 : List Nat) (ε : Env) (Kc : List DV → Sto → Prop) : List DV → List DV → Sto → Prop
  | [], acc, st => inv st ∧ Kc acc st
  | x :: r, acc, st => inv st ∧ g x ε st fun ε1 s1 => tt ε1 s1 fun b s2 => if b = true then ti1 ε1 s2 fun items1 inv1 s3 => acc.length + items1.length ≤ sizeLine ∧ qComp inv1 g1 tt1 te (wipeD ε1 vs1) (fun acc' s4 => qCompO inv g tt ti1 g1 tt1 te vs1 ε Kc r acc' s4) items1 acc s3
      else qCompO inv g tt ti1 g1 tt1 te vs1 ε Kc r acc s2
def qLc2 (m : Bool) (ti : TDi) (g : TDg) (tt : TDt) (ti1 : TDi) (g1 : TDg) (tt1 : TDt) (te : TD) (vs vs1 : List Nat) : TD := fun ε st Q => ti ε st fun items inv s1 => qCompO inv g tt ti1 g1 tt1 te vs1 (wipeD ε vs) (fun acc s2 => newL m acc s2 Q) items [] s1
end
end DL
end
section
set_option Elab.async false
set_option linter.all false
set_option maxRecDepth 100000
set_option maxHeartbeats 4000000
namespace DL
open PySem L2 PyProof.Rows
variable [tB : Tb] [gR : Gr]
section
variable {P : Program} {w : World} {K : PySem.W.Frag} {mg : Str → Option Value} {base : Heap} {X : Cx} {N : List Str} {sc fs : Scope} {k : Nat}
def qComb : RLD := fun xs st Q => match xs with
  | [.d (.int a), .d (.int b)] => 0 ≤ a ∧ 0 ≤ b ∧ a < 2 ^ 64 ∧ (b ≤ 9000 ∨ a ≤ 18000) ∧ Q (.d (.int (PySem.W.mcComb a b))) st
  | _ => False
def qGcd : RLD := fun xs st Q => match xs with
  | [.d (.int a), .d (.int b)] => Q (.d (.int ((Nat.gcd a.natAbs b.natAbs : Nat) : Int))) st
  | _ => False
end
end DL
end
section
set_option Elab.async false
set_option linter.all false
set_option maxRecDepth 100000
set_option maxHeartbeats 4000000
namespace DL
open PySem PySem.Spec L2 PyProof.Rows
variable [tB : Tb] [gR : Gr]
section
variable {P : Program} {w : World} {K : PySem.W.Frag} {mg : Str → Option Value} {base : Heap} {X : Cx} {N : List Str} {sc fs : Scope} {k : Nat}
/-- list(range(e)) -/
def qListRg (m : Bool) (te : TD) : TD := fun ε st Q => te ε st fun x s1 => match x with
  | .d (.int n) => 0 ≤ n ∧ n ≤ 16777216 ∧ newL m (rngD 0 n.toNat) s1 Q
  | _ => False
theorem rg_rvs {F : Hp} (n : Int) : RVs K F (rgV 0 n) (rngD 0 n.toNat) := by
  unfold rgV rngD
  rw [Int.sub_zero]
  induction (List.range n.toNat) with
  | nil => exact .nil
  | cons i l ih => exact .cons (.d (.int _)) ih
theorem de_listRg {e : Expr} {te : TD} {p p2 pos pos2 : Pos} (m : Bool) (c : Cok P w K mg base X N sc fs k) (hg : glB sc "list" = true) (hm : mg "list" = none) (hg2 : glB sc "range" = true) (hm2 : mg "range" = none) (ha : DE X e te)
    (he : starEach [e] X.env = [(false, eval e X.env)] := by rfl) : DE X (.Call (.Name "list" p) [.Call (.Name "range" p2) [e] [] pos2] [] pos) (qListRg m te) := by
  obtain ⟨t1, p1, a1⟩ := ha
  have g := gl_of c hg
  have g2 := gl_of c hg2
  refine ⟨⟨_, pe_listRg c.calm g.1 (by rw [c.hmg]; exact hm) (prg_1 g2.1 (by rw [c.hmg]; exact hm2) p1 he) rfl, fun F σ H ε st Qd Q R E h kk => ?_⟩⟩
  refine a1.go (W := fun x H1 => _) R E h kk fun F1 H1 s1 v y R1 E1 rv q kk => ?_
  split at q
  · rename_i n
    cases rv_int rv
    obtain ⟨h1, h2, q⟩ := q
    exact ⟨n, rfl, RgOk.of_le (by omega) (by omega) (by omega) h1, fun pp hp => new_lst R1 (rg_rvs n) hp q kk⟩
  · exact q.elim
end
end DL
end
section
set_option Elab.async false
set_option linter.all false
set_option maxRecDepth 100000
set_option maxHeartbeats 4000000
namespace BS
open PySem L2
/-- the masks that come -/
def MaskB (m : Nat) : Prop := m = 7 ∨ m = 31 ∨ m = 127 ∨ m = 511 ∨ m = 2047 ∨ m = 8191
/-- the slots that n steps from i meet, as bits -/
def bitsOf (m : Nat) : Nat → Nat → Nat → Nat
  | 0, _, acc => acc
  | n + 1, i, acc => bitsOf m n ((i * 5 + 1) % (m + 1)) (acc ||| (1 <<< i))
theorem bitsOf_spec (m : Nat) : ∀ (n a acc j : Nat), (bitsOf m n (lcgN m a) acc).testBit j = true → acc.testBit j = true ∨ ∃ b, b < n ∧ lcgN m (a + b) = j
  | 0, _, _, _, h => .inl h
  | n + 1, a, acc, j, h => by
    rcases bitsOf_spec m n (a + 1) _ j h with h | ⟨b, hb, e⟩
    · rw [Nat.testBit_or, Bool.or_eq_true] at h
      rcases h with h | h
      · exact .inl h
      · refine .inr ⟨0, Nat.zero_lt_succ _, ?_⟩
        rw [Nat.shiftLeft_eq, Nat.one_mul, Nat.testBit_two_pow] at h
        exact of_decide_eq_true h
    · exact .inr ⟨b + 1, by omega, by rw [show a + (b + 1) = a + 1 + b by omega]; exact e⟩
theorem met {m : Nat} (h : bitsOf m (m + 1) 0 0 = 2 ^ (m + 1) - 1) {j : Nat} (hj : j ≤ m) : ∃ b, b ≤ m ∧ lcgN m b = j := by
  have e : (bitsOf m (m + 1) (lcgN m 0) 0).testBit j = true := by
    show (bitsOf m (m + 1) 0 0).testBit j = true
    rw [h, Nat.testBit_two_pow_sub_one]
    exact decide_eq_true (by omega)
  rcases bitsOf_spec m (m + 1) 0 0 j e with h | ⟨b, hb, e⟩
  · rw [Nat.zero_testBit] at h
    cases h
  · exact ⟨b, by omega, by rw [← e, Nat.zero_add]⟩
theorem all7 : bitsOf 7 8 0 0 = 2 ^ 8 - 1 := by decide +kernel
theorem all31 : bitsOf 31 32 0 0 = 2 ^ 32 - 1 := by decide +kernel
theorem all127 : bitsOf 127 128 0 0 = 2 ^ 128 - 1 := by decide +kernel
theorem all511 : bitsOf 511 512 0 0 = 2 ^ 512 - 1 := by decide +kernel
theorem all2047 : bitsOf 2047 2048 0 0 = 2 ^ 2048 - 1 := by decide +kernel
theorem all8191 : bitsOf 8191 8192 0 0 = 2 ^ 8192 - 1 := by decide +kernel
theorem lcg_met {m : Nat} (hm : MaskB m) {j : Nat} (hj : j ≤ m) : ∃ b, b ≤ m ∧ lcgN m b = j := by
  rcases hm with rfl | rfl | rfl | rfl | rfl | rfl
  · exact met all7 hj
  · exact met all31 hj
  · exact met all127 hj
  · exact met all511 hj
  · exact met all2047 hj
  · exact met all8191 hj
/-- the last step of a round, without the steps -/
def lastOf (m : Nat) : Nat → Nat → Nat
  | 0, i => i
  | n + 1, i => lastOf m n ((i * 5 + 1) % (m + 1))
theorem lastOf_spec (m : Nat) : ∀ (n a : Nat), lastOf m n (lcgN m a) = lcgN m (a + n)
  | 0, _ => rfl
  | n + 1, a => by
    have := lastOf_spec m n (a + 1)
    rw [show a + (n + 1) = a + 1 + n by omega]
    exact this
theorem round7 : lastOf 7 8 0 = 0 := by decide +kernel
theorem round31 : lastOf 31 32 0 = 0 := by decide +kernel
theorem round127 : lastOf 127 128 0 = 0 := by decide +kernel
theorem round511 : lastOf 511 512 0 = 0 := by decide +kernel
theorem round2047 : lastOf 2047 2048 0 = 0 := by decide +kernel
theorem round8191 : lastOf 8191 8192 0 = 0 := by decide +kernel
theorem lcg_again {m : Nat} (hm : MaskB m) : lcgN m (m + 1) = 0 := by
  have key : ∀ m, lastOf m (m + 1) 0 = 0 → lcgN m (m + 1) = 0 := fun m h => by
    have := lastOf_spec m (m + 1) 0
    rw [Nat.zero_add] at this
    rw [← this]
    exact h
  rcases hm with rfl | rfl | rfl | rfl | rfl | rfl
  · exact key _ round7
  · exact key _ round31
  · exact key _ round127
  · exact key _ round511
  · exact key _ round2047
  · exact key _ round8191
theorem lcg_per {m : Nat} (hm : MaskB m) (k : Nat) : lcgN m (m + 1 + k) = lcgN m k := by
  induction k with
  | zero => exact lcg_again hm
  | succ k ih =>
    show (lcgN m (m + 1 + k) * 5 + 1) % (m + 1) = _
    rw [ih]
    rfl
/-- each slot begins a run early enough -/
theorem run_met {m : Nat} (hm : MaskB m) (h : Int) {j : Nat} (hj : j ≤ m) : ∃ n, n ≤ m + 12 ∧ runI m (SetTable.bits h) n = j := by
  obtain ⟨a, ha, ea⟩ := lcg_met hm (runI_le m (SetTable.bits h) 12)
  obtain ⟨b, hb, eb⟩ := lcg_met hm hj
  have step : ∀ k, runI m (SetTable.bits h) (12 + k) = lcgN m (a + k) := fun k => by rw [runI_tail (bits_lt h), ← ea, lcgN_add]
  by_cases c : b < a
  · refine ⟨12 + (b + (m + 1) - a), by omega, ?_⟩
    rw [step, show a + (b + (m + 1) - a) = m + 1 + b by omega, lcg_per hm, eb]
  · refine ⟨12 + (b - a), by omega, ?_⟩
    rw [step, show a + (b - a) = b by omega, eb]
theorem way_met {m : Nat} (hm : MaskB m) (h : Int) {j : Nat} (hj : j ≤ m) : ∃ k, k < 10 * SetTable.turns m ∧ way m h k = j := by
  obtain ⟨n, hn, e⟩ := run_met hm h hj
  obtain ⟨k, hk, e2⟩ := run_nth m (SetTable.bits h) n
  refine ⟨k, by unfold SetTable.turns; omega, ?_⟩
  show (nth m (runAt m (SetTable.bits h % (m + 1)) (SetTable.bits h)) k).j = j
  rw [e2]
  exact e
theorem way_in (m : Nat) (h : Int) (k : Nat) : way m h k ≤ m := by
  have hi : SetTable.bits h % (m + 1) ≤ m := Nat.le_of_lt_succ (Nat.mod_lt _ (Nat.succ_pos _))
  have r := runEnd_bd hi
  have q := nth_in (m := m) k (runAt m (SetTable.bits h % (m + 1)) (SetTable.bits h)) (show SetTable.bits h % (m + 1) + (SetTable.runEnd m (SetTable.bits h % (m + 1)) - SetTable.bits h % (m + 1)) ≤ m by omega)
  show (nth m (runAt m (SetTable.bits h % (m + 1)) (SetTable.bits h)) k).j ≤ m
  omega
theorem odd {m : Nat} (h : MaskB m) : m % 2 = 1 := by
  rcases h with rfl | rfl | rfl | rfl | rfl | rfl <;> rfl
theorem turns_le {m : Nat} (h : MaskB m) : 10 * SetTable.turns m < 100000 := by
  unfold SetTable.turns
  rcases h with rfl | rfl | rfl | rfl | rfl | rfl <;> decide
end BS
end
section
set_option Elab.async false
set_option linter.all false
set_option maxRecDepth 100000
set_option maxHeartbeats 4000000
namespace BS
open PySem L2
/-- a table in which each hash is met on its way ahead of any empty slot -/
structure Tb (t : SetTable) (hs : List Int) : Prop where
  ris : L2.Ris t.place.toList
  dm : t.dummies = #[]
  sz : t.place.toList.length = hs.length
  mok : MaskB t.mask
  bd : ∀ x ∈ t.place.toList, x ≤ t.mask
  reach : ∀ (i : Nat) (h : Int) (j : Nat), hs[i]? = some h → t.place.toList[i]? = some j → ∃ k, way t.mask h k = j ∧ ∀ k', k' < k → way t.mask h k' ∈ t.place.toList
theorem Tb.first {t : SetTable} {hs : List Int} (T : Tb t hs) (hl : hs.length ≤ t.mask) (h : Int) : ∃ K, K < 10 * SetTable.turns t.mask ∧ way t.mask h K ∉ t.place.toList ∧ ∀ k, k < K → way t.mask h k ∈ t.place.toList := by
  obtain ⟨j, hj, hn⟩ := st_missing t.place.toList (t.mask + 1) (by rw [T.sz]; omega)
  obtain ⟨k, hk, rfl⟩ := way_met T.mok h (j := j) (by omega)
  obtain ⟨K, h1, h2, h3⟩ := st_least (p := fun k => way t.mask h k ∉ t.place.toList) k hn
  exact ⟨K, by omega, h2, fun k' hk' => Classical.byContradiction fun c => h3 k' hk' c⟩
theorem Tb.before {t : SetTable} {hs : List Int} (T : Tb t hs) {h : Int} {K i j : Nat} (hK : way t.mask h K ∉ t.place.toList) (hi : hs[i]? = some h) (hj : t.place.toList[i]? = some j) : ∃ k, k < K ∧ way t.mask h k = j := by
  obtain ⟨k, e, hb⟩ := T.reach i h j hi hj
  refine ⟨k, Classical.byContradiction fun c => ?_, e⟩
  by_cases d : K = k
  · subst d
    exact hK (e ▸ List.mem_of_getElem? hj)
  · exact hK (hb K (by omega))
theorem Tb.put {t : SetTable} {hs : List Int} (T : Tb t hs) {h : Int} {K : Nat} (hK : way t.mask h K ∉ t.place.toList) (hb : ∀ k, k < K → way t.mask h k ∈ t.place.toList) :
    SetTable.below t.place (way t.mask h K) ≤ hs.length ∧ Tb (t.put (way t.mask h K)).1 (hs.take (SetTable.below t.place (way t.mask h K)) ++ h :: hs.drop (SetTable.below t.place (way t.mask h K))) ∧ (t.put (way t.mask h K)).1.fill = hs.length + 1 := by
  have hjm := way_in t.mask h K
  generalize hj : way t.mask h K = j at *
  have hp : SetTable.below t.place j ≤ t.place.toList.length := by
    rw [Array.length_toList]
    exact (below_cut T.ris j).1
  have hph : SetTable.below t.place j ≤ hs.length := by rw [← T.sz]; exact hp
  have hpp := put_place t j
  have hlen : (t.put j).1.place.toList.length = hs.length + 1 := by rw [hpp, len_ins _ hp, T.sz]
  have up : ∀ {x : Nat}, x ∈ t.place.toList → x ∈ (t.put j).1.place.toList := fun hx => by
    rw [hpp]
    exact mem_ins.2 (.inr hx)
  refine ⟨hph, ⟨ris_insert T.ris fun e => hK (List.mem_of_getElem? (by rw [Array.getElem?_toList]; exact e)), put_dm T.dm j, ?_, T.mok, fun x hx => ?_, fun i h' j' h1 h2 => ?_⟩, ?_⟩
  · rw [hlen, len_ins _ hph]
  · rw [hpp] at hx
    rcases mem_ins.1 hx with rfl | z
    · exact hjm
    · exact T.bd x z
  · rw [tins_get hs hph] at h1
    rw [hpp, tins_get _ hp] at h2
    show ∃ k, way t.mask h' k = j' ∧ ∀ k', k' < k → way t.mask h' k' ∈ (t.put j).1.place.toList
    have old : ∀ i', hs[i']? = some h' → t.place.toList[i']? = some j' → ∃ k, way t.mask h' k = j' ∧ ∀ k', k' < k → way t.mask h' k' ∈ (t.put j).1.place.toList := fun i' a b => by
      obtain ⟨k, e, z⟩ := T.reach i' h' j' a b
      exact ⟨k, e, fun k' hk' => up (z k' hk')⟩
    by_cases c : i < SetTable.below t.place j
    · rw [if_pos c] at h1 h2
      exact old i h1 h2
    · rw [if_neg c] at h1 h2
      by_cases d : i = SetTable.below t.place j
      · rw [if_pos d] at h1 h2
        cases h1
        cases h2
        exact ⟨K, hj, fun k' hk' => up (hb k' hk')⟩
      · rw [if_neg d] at h1 h2
        exact old (i - 1) h1 h2
  · show (t.put j).1.place.size + (t.put j).1.dummies.size = hs.length + 1
    rw [← Array.length_toList, hlen, put_dm T.dm j]
    rfl
theorem free_at {m : Nat} (hm : MaskB m) (owner : Array (Option Nat)) (h : Int) {j : Nat} (hj : j ≤ m) (hf : oAt owner j = none) :
    ∃ K, SetTable.layClean.free m owner (SetTable.turns m) (SetTable.bits h % (m + 1)) (SetTable.bits h) = some (way m h K) ∧ oAt owner (way m h K) = none ∧ ∀ k, k < K → oAt owner (way m h k) ≠ none := by
  obtain ⟨n, hn, e⟩ := run_met hm h hj
  have hw : way m h (off m (SetTable.bits h % (m + 1)) (SetTable.bits h) n) = j := by
    show (nth m (runAt m (SetTable.bits h % (m + 1)) (SetTable.bits h)) _).j = j
    rw [nth_off, itL_run]
    exact e
  obtain ⟨K, k1, k2, k3⟩ := st_least (p := fun k => oAt owner (way m h k) = none) _ (show oAt owner (way m h (off m (SetTable.bits h % (m + 1)) (SetTable.bits h) n)) = none by rw [hw]; exact hf)
  refine ⟨K, free_spec m owner (SetTable.turns m) n _ _ K (by unfold SetTable.turns; omega) k1 (fun k hk => ?_) ?_, k2, k3⟩
  · cases z : oAt owner (nth m (runAt m (SetTable.bits h % (m + 1)) (SetTable.bits h)) k).j with
    | none => exact absurd z (k3 k hk)
    | some _ => rfl
  · show (oAt owner (way m h K)).isNone = true
    rw [k2]
    rfl
theorem own_step {m : Nat} (hm : MaskB m) {done : List Int} {owner : Array (Option Nat)} (W : Own m done owner) (hl : done.length ≤ m) (h : Int) :
    ∃ j, SetTable.layClean.free m owner (SetTable.turns m) (SetTable.bits h % (m + 1)) (SetTable.bits h) = some j ∧ Own m (done ++ [h]) (owner.setIfInBounds j (some done.length)) := by
  obtain ⟨ps, hps, hin⟩ := W.ps
  obtain ⟨j0, h0, hn0⟩ := st_missing ps (m + 1) (by omega)
  have hj0 : oAt owner j0 = none := Classical.byContradiction fun z => hn0 (hin j0 (by omega) z)
  obtain ⟨K, e1, e2, e3⟩ := free_at hm owner h (show j0 ≤ m by omega) hj0
  have hjm := way_in m h K
  refine ⟨way m h K, e1, ?_⟩
  generalize hw : way m h K = x at *
  have hself : oAt (owner.setIfInBounds x (some done.length)) x = some done.length := oAt_set_self _ (by rw [W.sz]; omega)
  have keep : ∀ {i : Nat}, i ≠ x → oAt (owner.setIfInBounds x (some done.length)) i = oAt owner i := fun c => oAt_set_ne _ c
  have mono : ∀ {i : Nat}, oAt owner i ≠ none → oAt (owner.setIfInBounds x (some done.length)) i ≠ none := fun {i} hi => by
    by_cases c : i = x
    · rw [c, hself]; exact nofun
    · rw [keep c]; exact hi
  refine ⟨by rw [Array.size_setIfInBounds]; exact W.sz, fun j k hj e => ?_, fun k hk => ?_, ⟨x :: ps, by simp [hps], fun j hj e => ?_⟩⟩
  · by_cases c : j = x
    · rw [c, hself] at e
      cases e
      exact ⟨h, K, by simp, by rw [hw, c], fun k' hk' => mono (e3 k' hk')⟩
    · rw [keep c] at e
      obtain ⟨h', K', a1, a2, a3⟩ := W.at_ j k hj e
      refine ⟨h', K', ?_, a2, fun k' hk' => mono (a3 k' hk')⟩
      rw [List.getElem?_append_left (List.getElem?_eq_some_iff.mp a1).1]
      exact a1
  · rw [List.length_append, List.length_singleton] at hk
    by_cases c : k < done.length
    · obtain ⟨j, hj, e⟩ := W.all k c
      exact ⟨j, hj, by rw [keep (fun z => by rw [z, e2] at e; cases e)]; exact e⟩
    · rw [show k = done.length by omega]
      exact ⟨x, hjm, hself⟩
  · by_cases c : j = x
    · rw [c]; exact List.mem_cons_self
    · rw [keep c] at e
      exact List.mem_cons_of_mem _ (hin j hj e)
theorem own_all {m : Nat} (hm : MaskB m) : ∀ (rest done : List Int) (owner : Array (Option Nat)), Own m done owner → done.length + rest.length ≤ m →
    ∃ owner', rest.foldl (stepF m) (some (owner, done.length)) = some (owner', (done ++ rest).length) ∧ Own m (done ++ rest) owner'
  | [], done, owner, W, _ => ⟨owner, by simp, by simpa using W⟩
  | h :: rest, done, owner, W, hl => by
    rw [List.length_cons] at hl
    obtain ⟨j, e, W'⟩ := own_step hm W (by omega) h
    obtain ⟨owner', f, W2⟩ := own_all hm rest (done ++ [h]) _ W' (by simp; omega)
    refine ⟨owner', ?_, by simpa using W2⟩
    rw [List.foldl_cons, stepF_some e]
    simpa using f
theorem clean_ok {m : Nat} (hm : MaskB m) {hs : Array Int} (hn : hs.size ≤ m) : ∃ owner, SetTable.layClean m hs = some owner ∧ Own m hs.toList owner := by
  obtain ⟨owner, f, W⟩ := own_all hm hs.toList [] _ (Own.init m) (by simpa using hn)
  refine ⟨owner, ?_, by simpa using W⟩
  rw [layClean_eq]
  have f' : hs.toList.foldl (stepF m) (some (Array.replicate (m + 1) none, 0)) = some (owner, ([] ++ hs.toList).length) := f
  rw [f']
  rfl
theorem relaid_as (t : SetTable) {hs : Array Int} {wanted M : Nat} (hw : SetTable.sizeAbove wanted - 1 = M) (hM : MaskB M) (hn : hs.size ≤ M) :
    ∃ t' order, t.relaid hs wanted = some (t', order) ∧ order.toList.Perm (List.range hs.size) ∧ Tb t' (order.toList.map fun i => hs.getD i 0) ∧ t'.mask = M ∧ t'.led = t.led ∧ t'.plain = t.plain := by
  obtain ⟨owner, e, W⟩ := clean_ok hM hn
  have hz : hs.toList.length = hs.size := rfl
  obtain ⟨r1, r2⟩ : L2.Ris ((liveOf M owner).map (·.1)) ∧ ∀ x ∈ (liveOf M owner).map (·.1), x ∈ List.range (M + 1) := ris_live (fun j => owner.getD j none) (List.range (M + 1)) (by
    unfold L2.Ris
    first | exact List.pairwise_lt_range | exact List.pairwise_lt_range _)
  have nd : ((liveOf M owner).map (·.1)).Nodup := List.Pairwise.imp (fun h => Nat.ne_of_lt h) r1
  have hlen : (liveOf M owner).length = hs.size := by
    obtain ⟨ps, p1, p2⟩ := W.ps
    have a := nat_nodup_len _ ps nd fun x hx => by
      obtain ⟨⟨y, k⟩, hq, rfl⟩ := List.mem_map.mp hx
      obtain ⟨b1, b2⟩ := (mem_live W.sz).1 hq
      exact p2 y b1 (by rw [b2]; exact nofun)
    have b := nat_nodup_len (List.range hs.size) ((liveOf M owner).map (·.2)) List.nodup_range fun k hk => by
      obtain ⟨j, b1, b2⟩ := W.all k (List.mem_range.mp hk)
      exact List.mem_map.mpr ⟨(j, k), (mem_live W.sz).2 ⟨b1, b2⟩, rfl⟩
    rw [List.length_map, p1] at a
    rw [List.length_map, List.length_range] at b
    omega
  refine ⟨tabOf t M owner, ((liveOf M owner).map (·.2)).toArray, by rw [relaid_eq, hw, e]; rfl, perm_range hs.size _ (by show ((liveOf M owner).map (·.2)).length = _; rw [List.length_map]; exact hlen) fun k hk => ?_, ⟨r1, rfl, ?_, hM, fun x hx => ?_, fun i h j h1 h2 => ?_⟩, rfl, rfl, rfl⟩
  · obtain ⟨j, b1, b2⟩ := W.all k hk
    exact List.mem_map.mpr ⟨(j, k), (mem_live W.sz).2 ⟨b1, b2⟩, rfl⟩
  · show ((liveOf M owner).map (·.1)).length = (((liveOf M owner).map (·.2)).map fun i => hs.getD i 0).length
    simp
  · have := List.mem_range.mp (r2 x hx)
    show x ≤ M
    omega
  · have h1' : (((liveOf M owner).map (·.2)).map fun i => hs.getD i 0)[i]? = some h := h1
    have h2' : ((liveOf M owner).map (·.1))[i]? = some j := h2
    rw [List.getElem?_map, List.getElem?_map] at h1'
    rw [List.getElem?_map] at h2'
    cases hq : (liveOf M owner)[i]? with
    | none => rw [hq] at h2'; cases h2'
    | some q =>
      obtain ⟨y, k⟩ := q
      rw [hq] at h1' h2'
      cases h2'
      have eh : hs.getD k 0 = h := Option.some.inj h1'
      obtain ⟨b1, b2⟩ := (mem_live W.sz).1 (List.mem_of_getElem? hq)
      obtain ⟨h0, K, a1, a2, a3⟩ := W.at_ y k b1 b2
      have e0 : hs.getD k 0 = h0 := by
        rw [Array.getD_eq_getD_getElem?, ← Array.getElem?_toList, a1]
        rfl
      rw [e0] at eh
      subst eh
      refine ⟨K, a2, fun k' hk' => ?_⟩
      show way M h0 k' ∈ (liveOf M owner).map (·.1)
      cases z : oAt owner (way M h0 k') with
      | none => exact absurd z (a3 k' hk')
      | some k2 => exact List.mem_map.mpr ⟨(way M h0 k', k2), (mem_live W.sz).2 ⟨way_in M h0 k', z⟩, rfl⟩
theorem size_5 : SetTable.sizeAbove (SetTable.grown 5) = 32 := by decide +kernel
theorem size_19 : SetTable.sizeAbove (SetTable.grown 19) = 128 := by decide +kernel
theorem size_77 : SetTable.sizeAbove (SetTable.grown 77) = 512 := by decide +kernel
theorem size_307 : SetTable.sizeAbove (SetTable.grown 307) = 2048 := by decide +kernel
theorem size_1229 : SetTable.sizeAbove (SetTable.grown 1229) = 8192 := by decide +kernel
end BS
end
section
set_option Elab.async false
set_option linter.all false
set_option maxRecDepth 100000
set_option maxHeartbeats 4000000
namespace BS
open PySem PySem.Spec L2 PyProof.Rows
section
variable {P : Program} {w : World} {A : Around} {E : Value → Shared → Prop} {s : Shared}
structure SetB (P : Program) (w : World) (h : Heap) (a : Addr) (L : List (Addr × List Int)) (es : Array (Int × Value)) (ep : Nat) (t : SetTable) : Prop where
  ob : ∃ o, h.get? a = some o ∧ o.ExactSet ∧ o.data = .set es ep t
  rows : es.toList = rowsOf P w L
  tab : Tb t (L.map fun p => thash P w p.2)
  nd : (L.map (·.2)).Nodup
  tup : ∀ p ∈ L, IsT P w h p.2 p.1
  plain : t.plain = true
  led : w.params.followText "set-order" = true ∨ t.led = true
  room : L.length * 5 < t.mask * 3
variable {a : Addr} {L : List (Addr × List Int)} {es : Array (Int × Value)} {ep : Nat} {t : SetTable}
theorem rows_len {es : Array (Int × Value)} (h : es.toList = rowsOf P w L) : es.size = L.length := by
  have := congrArg List.length h
  simpa [rowsOf] using this
theorem fits_of {t : SetTable} {n : Nat} (h1 : t.place.toList.length = n) (h2 : t.dummies = #[]) (h3 : n ≤ t.mask) : t.fits n = true := by
  unfold SetTable.fits SetTable.fill
  rw [h2, Bool.and_eq_true, beq_iff_eq, decide_eq_true_eq, ← Array.length_toList, h1]
  exact ⟨rfl, h3⟩
theorem SetB.sz (R : SetB P w s.heap a L es ep t) : t.place.toList.length = L.length := by
  rw [R.tab.sz, List.length_map]
theorem SetB.fits (R : SetB P w s.heap a L es ep t) : t.fits es.size = true := by
  have := R.room
  exact fits_of (by rw [R.sz, rows_len R.rows]) R.tab.dm (by rw [rows_len R.rows]; omega)
theorem SetB.entry (R : SetB P w s.heap a L es ep t) {i : Nat} {p : Addr × List Int} (h : L[i]? = some p) : es[i]? = some (thash P w p.2, Value.ref p.1) := by
  rw [← Array.getElem?_toList, R.rows]
  unfold rowsOf
  rw [List.getElem?_map, h]
  rfl
theorem SetB.gw (R : SetB P w s.heap a L es ep t) : ¬ t.gaveWay = true := by
  unfold SetTable.gaveWay
  rw [odd R.tab.mok]
  decide
theorem nth_dummy (m : Nat) : ∀ (n : Nat) (p : SetTable.Probe), p.dummy = none → (nth m p n).dummy = none
  | 0, _, h => h
  | n + 1, p, h => nth_dummy m n (adv m p) (by unfold adv; split <;> exact h)
/-- the way's c-th state -/
abbrev stt (m : Nat) (h : Int) (c : Nat) : SetTable.Probe := nth m (runAt m (SetTable.bits h % (m + 1)) (SetTable.bits h)) c
theorem stt_add (m : Nat) (h : Int) (c q : Nat) : nth m (stt m h c) q = stt m h (c + q) := (nth_add m c _ q).symm
theorem stt_j (m : Nat) (h : Int) (c q : Nat) : (nth m (stt m h c) q).j = way m h (c + q) := congrArg SetTable.Probe.j (stt_add m h c q)
/-- the search, from the c-th state on -/
theorem seek (R : SetB P w s.heap a L es ep t) {x : Addr} {k : List Int} (hx : IsT P w s.heap k x) (hu : A.units < cLine) {K : Nat} (hKf : K < 10 * SetTable.turns t.mask)
    (hK : way t.mask (thash P w k) K ∉ t.place.toList) (hKb : ∀ c, c < K → way t.mask (thash P w k) c ∈ t.place.toList) {Q : SetFound → Shared → Prop}
    (hin : k ∈ L.map (·.2) → Q (.there none) s) (hout : k ∉ L.map (·.2) → Q (.free (way t.mask (thash P w k) K) false) s) :
    ∀ (f c : Nat) (stand : Option SetTable.Probe), stand.getD (t.probeStart (thash P w k)) = stt t.mask (thash P w k) c → c ≤ K → K - c < f →
      (∀ (i : Nat) p, L[i]? = some p → p.2 = k → ∃ c', c ≤ c' ∧ c' < K ∧ t.place.toList[i]? = some (way t.mask (thash P w k) c')) →
      wpAny (model P w) A (setSearchFrom a (.ref x) (thash P w k) true f stand) Q E s := by
  intro f
  induction f with
  | zero => intro c stand _ _ hf; exact absurd hf (Nat.not_lt_zero _)
  | succ f ih =>
  intro c stand hst hc hf hre
  obtain ⟨o, ho, hex, hd⟩ := R.ob
  rw [setSearchFrom_succ]
  refine wpAny_bind (wpAny_setState_of ho hd R.fits ?_)
  dsimp only
  refine wp_if_neg R.gw ?_
  try refine wpAny_bind (wpAny_pure ?_)
  have ha : ∀ (i : Nat) p, L[i]? = some p → (fun i => (es[i]?.map (·.1)).getD 0) i = thash P w p.2 := fun i p hp => by
    show (es[i]?.map (·.1)).getD 0 = _
    rw [R.entry hp]
    rfl
  rcases go_spec t R.tab.ris R.tab.dm (fun i => (es[i]?.map (·.1)).getD 0) (thash P w k) (10 * SetTable.turns t.mask) (K - c) _ (nth_dummy t.mask c _ rfl) (by omega)
      (fun q hq => by rw [stt_j]; exact hKb (c + q) (by omega)) (by rw [stt_j, show c + (K - c) = K by omega]; exact hK) with ⟨q, i, hq, hi, hh, hno, hpr⟩ | ⟨hno, hpr⟩
  · have hpr' : t.probe (fun i => (es[i]?.map (·.1)).getD 0) (thash P w k) (stand.getD (t.probeStart (thash P w k))) = some (.candidate (way t.mask (thash P w k) (c + q)) i (stt t.mask (thash P w k) (c + (q + 1)))) := by
      rw [hst, ← stt_j, ← stt_add]
      exact hpr
    rw [hpr']
    dsimp only
    rw [stt_j] at hi
    have hil : i < L.length := by
      rw [← R.sz]
      exact (List.getElem?_eq_some_iff.mp hi).1
    have hp : L[i]? = some L[i] := List.getElem?_eq_getElem hil
    generalize hpe : L[i] = p at hp
    have hmem : p ∈ L := List.mem_of_getElem? hp
    have rest : wpAny (model P w) A (searchRest a (.ref x) (thash P w k) true f es t (way t.mask (thash P w k) (c + q)) i (stt t.mask (thash P w k) (c + (q + 1)))) Q E s := by
      unfold searchRest
      rw [R.entry hp]
      dsimp only
      refine wpAny_bind (wpAny_holding (wpAny_eqBool_tuple hu (R.tup p hmem) hx ?_))
      refine wpAny_bind (wpAny_setState_of ho hd R.fits ?_)
      dsimp only
      by_cases hkk : p.2 = k
      · refine wp_if_pos (by simp [hkk]) ?_
        exact wpAny_pure (hin (List.mem_map.mpr ⟨p, hmem, hkk⟩))
      · refine wp_if_neg (by simp [hkk]) ?_
        try refine wpAny_bind (wpAny_pure ?_)
        rw [sameMem]
        dsimp only
        have hsl : t.slot (way t.mask (thash P w k) (c + q)) = .live i := slot_live R.tab.ris hi
        simp only [if_true, hsl, R.entry hp]
        refine wpAny_bind (wpAny_isSame_ref_self (wpAny_bind (wpAny_pure ?_)))
        simp only [if_true]
        refine wp_if_neg (by simp [hkk]) ?_
        refine ih (c + (q + 1)) _ rfl (by omega) (by omega) fun i0 p0 h0 hk0 => ?_
        obtain ⟨c', a1, a2, a3⟩ := hre i0 p0 h0 hk0
        refine ⟨c', Classical.byContradiction fun z => ?_, a2, a3⟩
        by_cases y : c' = c + q
        · subst y
          have s0 := slot_live R.tab.ris a3
          rw [hsl] at s0
          injection s0 with s0
          subst s0
          rw [hp] at h0
          cases h0
          exact hkk hk0
        · refine hno (c' - c) i0 (by omega) (by rw [stt_j, show c + (c' - c) = c' by omega]; exact a3) ?_
          exact (ha i0 p0 h0).trans (congrArg (thash P w) hk0)
    by_cases hl : t.led = true
    · refine wp_if_neg (by simp [hl]) ?_
      try refine wpAny_bind (wpAny_pure ?_)
      exact rest
    · refine wp_if_pos (by simp [hl]) ?_
      refine wpAny_bind (seen_tup hx (fun y hy => ?_) ?_)
      · obtain ⟨e, he, ee⟩ := List.mem_map.mp hy
        have he1 : e ∈ es ∧ e.1 = thash P w k := by simpa using he
        have he2 : e ∈ es.toList := by simpa using he1.1
        rw [R.rows] at he2
        obtain ⟨p2, hp2, e2⟩ := List.mem_map.mp he2
        exact ⟨p2.2, p2.1, by rw [← ee, ← e2], R.tup p2 hp2⟩
      · refine wp_if_neg (by decide) ?_
        try refine wpAny_bind (wpAny_pure ?_)
        exact rest
  · have hpr' : t.probe (fun i => (es[i]?.map (·.1)).getD 0) (thash P w k) (stand.getD (t.probeStart (thash P w k))) = some (.empty (way t.mask (thash P w k) K) none) := by
      have e2 : way t.mask (thash P w k) K = (nth t.mask (stt t.mask (thash P w k) c) (K - c)).j := by rw [stt_j, show c + (K - c) = K by omega]
      rw [hst, e2]
      exact hpr
    rw [hpr']
    dsimp only
    refine wpAny_pure (hout fun hm => ?_)
    obtain ⟨p0, h0, hk0⟩ := List.mem_map.mp hm
    obtain ⟨i0, h00⟩ := List.mem_iff_getElem?.mp h0
    obtain ⟨c', a1, a2, a3⟩ := hre i0 p0 h00 hk0
    exact hno (c' - c) i0 (by omega) (by rw [stt_j, show c + (c' - c) = c' by omega]; exact a3) ((ha i0 p0 h00).trans (congrArg (thash P w) hk0))
theorem seek_add (R : SetB P w s.heap a L es ep t) {x : Addr} {k : List Int} (hx : IsT P w s.heap k x) (hu : A.units < cLine) {Q : SetFound → Shared → Prop}
    (hin : k ∈ L.map (·.2) → Q (.there none) s)
    (hout : ∀ K, k ∉ L.map (·.2) → way t.mask (thash P w k) K ∉ t.place.toList → (∀ c, c < K → way t.mask (thash P w k) c ∈ t.place.toList) → Q (.free (way t.mask (thash P w k) K) false) s) :
    wpAny (model P w) A (setSearch a (.ref x) (thash P w k) true) Q E s := by
  have hroom := R.room
  obtain ⟨K, hKf, hK, hKb⟩ := R.tab.first (by rw [List.length_map]; omega) (thash P w k)
  have hbig := turns_le R.tab.mok
  unfold setSearch
  refine seek R hx hu hKf hK hKb hin (fun hn => hout K hn hK hKb) 100000 0 none rfl (Nat.zero_le _) (by omega) fun i p hp hk => ?_
  have hi : (L.map fun p => thash P w p.2)[i]? = some (thash P w k) := by rw [List.getElem?_map, hp, ← hk]; rfl
  have hil : i < t.place.toList.length := by
    rw [R.sz]
    exact (List.getElem?_eq_some_iff.mp hp).1
  have hj := List.getElem?_eq_getElem hil
  obtain ⟨c, hc, e⟩ := R.tab.before hK hi hj
  exact ⟨c, Nat.zero_le _, hc, by rw [hj, e]⟩
end
end BS
end
section
set_option Elab.async false
set_option linter.all false
set_option maxRecDepth 100000
set_option maxHeartbeats 4000000
namespace BS
open PySem PySem.Spec L2 PyProof.Rows
section
variable {P : Program} {w : World} {A : Around} {E : Value → Shared → Prop} {s : Shared} {a : Addr} {L : List (Addr × List Int)} {es : Array (Int × Value)} {ep : Nat} {t : SetTable}
theorem lay {o : Obj} (ho : s.heap.get? a = some o) (hex : o.ExactSet) (hd : o.data = .set es ep t) (hrows : es.toList = rowsOf P w L) (T0 : Tb t (L.map fun p => thash P w p.2)) (hfl : L.length ≤ t.mask)
    (nd : (L.map (·.2)).Nodup) (tup : ∀ p ∈ L, IsT P w s.heap p.2 p.1) (pl : t.plain = true) (ld : w.params.followText "set-order" = true ∨ t.led = true) {wanted M : Nat}
    (hw : SetTable.sizeAbove wanted - 1 = M) (hM : MaskB M) (hw2 : SetTable.sizeAbove wanted ≤ 8192) (hn : L.length * 5 < M * 3) {Q : Unit → Shared → Prop}
    (hQ : ∀ h' L' es' ep' t', Heap.SameBut a s.heap h' → SetB P w h' a L' es' ep' t' → L'.Perm L → Q () { s with heap := h' }) : wpAny (model P w) A (setRelay a wanted) Q E s := by
  have hsl := rows_len hrows
  have hfits : t.fits es.size = true := fits_of (by rw [T0.sz, List.length_map, hsl]) T0.dm (by rw [hsl]; exact hfl)
  obtain ⟨t', order, e, hp, T, em, el, epl⟩ := relaid_as t (hs := es.map (·.1)) (wanted := wanted) hw hM (by rw [Array.size_map, hsl]; omega)
  rw [Array.size_map, hsl] at hp
  obtain ⟨L2, r1, r2, r3⟩ := order_rows L es order hrows hp
  rw [← r3] at T
  have hs2 : (order.filterMap (es[·]?)).size = es.size := by rw [rows_len r1, r2.length_eq, hsl]
  have hM2 : L.length < 8192 := by
    rcases hM with rfl | rfl | rfl | rfl | rfl | rfl <;> omega
  rw [setRelay_eq]
  refine wpAny_bind (wpAny_setState_of ho hd hfits ?_)
  dsimp only
  refine wp_if_neg (by rw [sizeLine_eq]; omega) ?_
  try refine wpAny_bind (wpAny_pure ?_)
  rw [e]
  dsimp only
  refine wpAny_bind ?_
  refine wp_if_neg (by rw [hs2]; simp) ?_
  try refine wpAny_bind (wpAny_pure ?_)
  refine wpAny_pure ?_
  dsimp only
  refine wpAny_storeSet_of ho hd ?_ (by rw [hs2, hsl, sizeLine_eq]; omega)
  have sb : Heap.SameBut a s.heap (s.heap.update a (Obj.putSet (order.filterMap (es[·]?)) t')) := Heap.SameBut.update ..
  exact hQ _ L2 (order.filterMap (es[·]?)) (ep + 1) t' sb ⟨⟨_, store_at ho hd, ⟨hex.1, hex.2.1, hex.2.2⟩, rfl⟩, r1, T, (r2.map (·.2)).nodup_iff.mpr nd, fun p hpm => isT_same (tup p (r2.mem_iff.mp hpm)) ho hd sb, by rw [epl]; exact pl, by rw [el]; exact ld, by rw [r2.length_eq, em]; exact hn⟩ r2
/-- when a table is too full, the next is -/
theorem next_mask {m n : Nat} (hm : MaskB m) (hroom : n * 5 < m * 3) (hfull : (n + 1) * 5 ≥ m * 3) (hn : n < 4000) :
    ∃ M, SetTable.sizeAbove (SetTable.grown (n + 1)) - 1 = M ∧ MaskB M ∧ SetTable.sizeAbove (SetTable.grown (n + 1)) ≤ 8192 ∧ (n + 1) * 5 < M * 3 := by
  have key : ∀ (c S : Nat), n + 1 = c → SetTable.sizeAbove (SetTable.grown c) = S → MaskB (S - 1) → S ≤ 8192 → c * 5 < (S - 1) * 3 → ∃ M, SetTable.sizeAbove (SetTable.grown (n + 1)) - 1 = M ∧ MaskB M ∧ SetTable.sizeAbove (SetTable.grown (n + 1)) ≤ 8192 ∧ (n + 1) * 5 < M * 3 := by
    intro c S h1 h2 h3 h4 h5
    subst h1
    exact ⟨S - 1, by rw [h2], h3, by rw [h2]; exact h4, h5⟩
  rcases hm with rfl | rfl | rfl | rfl | rfl | rfl
  · exact key 5 32 (by omega) size_5 (.inr (.inl rfl)) (by decide) (by decide)
  · exact key 19 128 (by omega) size_19 (.inr (.inr (.inl rfl))) (by decide) (by decide)
  · exact key 77 512 (by omega) size_77 (.inr (.inr (.inr (.inl rfl)))) (by decide) (by decide)
  · exact key 307 2048 (by omega) size_307 (.inr (.inr (.inr (.inr (.inl rfl))))) (by decide) (by decide)
  · exact key 1229 8192 (by omega) size_1229 (.inr (.inr (.inr (.inr (.inr rfl))))) (by decide) (by decide)
  · omega
theorem add (R : SetB P w s.heap a L es ep t) {x : Addr} {k : List Int} (hx : IsT P w s.heap k x) (hu : A.units < cLine) (hfew : L.length < 4000) {Q : Bool → Shared → Prop}
    (hQ : ∀ b h' L' es' ep' t', Heap.SameBut a s.heap h' → SetB P w h' a L' es' ep' t' → (k ∈ L.map (·.2) → L' = L) → (k ∉ L.map (·.2) → L'.Perm ((x, k) :: L)) → Q b { s with heap := h' }) :
    wpAny (model P w) A (setAddHashed a (.ref x) (thash P w k)) Q E s := by
  obtain ⟨o, ho, hex, hd⟩ := R.ob
  have hsl := rows_len R.rows
  have hroom := R.room
  unfold setAddHashed
  refine wpAny_holding ?_
  rw [show (100000 : Nat) = 99999 + 1 from rfl, setAddHashedIn_succ]
  refine wpAny_bind (wpAny_setState_of ho hd R.fits ?_)
  dsimp only
  refine wp_if_neg (by simp [byScan, Value.scannable]) ?_
  try refine wpAny_bind (wpAny_pure ?_)
  refine wpAny_bind (seek_add R hx hu (fun hm => ?_) fun K hm hK hb => ?_)
  · dsimp only
    exact wpAny_pure (hQ false s.heap L es ep t (Heap.SameBut.refl a s.heap) R (fun _ => rfl) fun z => absurd hm z)
  · dsimp only
    refine wpAny_bind (wpAny_setState_of ho hd R.fits ?_)
    dsimp only
    obtain ⟨q2, q3, q9⟩ := R.tab.put hK hb
    have q1 : (t.put (way t.mask (thash P w k) K)).2 = SetTable.below t.place (way t.mask (thash P w k) K) := rfl
    have q4 : (t.put (way t.mask (thash P w k) K)).1.mask = t.mask := rfl
    have q5 : (t.put (way t.mask (thash P w k) K)).1.led = t.led := rfl
    have hp1 : (t.put (way t.mask (thash P w k) K)).1.plain = true := R.plain
    generalize hpt : t.put (way t.mask (thash P w k) K) = pt at q1 q3 q4 q5 q9 hp1 ⊢
    obtain ⟨t1, p⟩ := pt
    dsimp only at q1 q3 q4 q5 q9 hp1 ⊢
    subst q1
    first
      | (refine wpAny_bind ?_; refine wp_if_pos hp1 ?_; refine hashBy_tup hx ?_)
      | refine wp_if_pos hp1 (wpAny_bind (hashBy_tup hx ?_))
    simp only [if_true]
    have hin : (SetTable.insertAt es (SetTable.below t.place (way t.mask (thash P w k) K)) (thash P w k, Value.ref x)).toList = rowsOf P w (L.take (SetTable.below t.place (way t.mask (thash P w k) K)) ++ (x, k) :: L.drop (SetTable.below t.place (way t.mask (thash P w k) K))) := by
      rw [SetTable.toList_insertAt, rows_put, R.rows]
    generalize SetTable.below t.place (way t.mask (thash P w k) K) = p at q2 q3 hin ⊢
    have pm := put_perm L p (x, k)
    have hlen : (L.take p ++ (x, k) :: L.drop p).length = L.length + 1 := pm.length_eq
    have hhs : (L.take p ++ (x, k) :: L.drop p).map (fun p => thash P w p.2) = (L.map fun p => thash P w p.2).take p ++ thash P w k :: (L.map fun p => thash P w p.2).drop p := by
      rw [List.map_append, List.map_cons, List.map_take, List.map_drop]
    rw [← hhs] at q3
    have nd1 : ((L.take p ++ (x, k) :: L.drop p).map (·.2)).Nodup := by
      refine (pm.map (·.2)).nodup_iff.mpr ?_
      rw [List.map_cons]
      exact List.nodup_cons.mpr ⟨hm, R.nd⟩
    have hes := rows_len hin
    rw [hlen] at hes
    generalize SetTable.insertAt es p (thash P w k, Value.ref x) = es1 at hin hes ⊢
    generalize L.take p ++ (x, k) :: L.drop p = L1 at pm hlen q3 nd1 hin
    refine wpAny_bind (wpAny_storeSet_of ho hd ?_ (by rw [hes, sizeLine_eq]; omega))
    have sb : Heap.SameBut a s.heap (s.heap.update a (Obj.putSet es1 t1)) := Heap.SameBut.update ..
    have ho1 := store_at (es' := es1) (t' := t1) ho hd
    generalize s.heap.update a (Obj.putSet es1 t1) = h1 at sb ho1 ⊢
    have tup1 : ∀ p ∈ L1, IsT P w h1 p.2 p.1 := fun p hp => by
      rcases List.mem_cons.mp (pm.mem_iff.mp hp) with e | hp
      · rw [e]; exact isT_same hx ho hd sb
      · exact isT_same (R.tup p hp) ho hd sb
    have ld1 : w.params.followText "set-order" = true ∨ t1.led = true := by rw [q5]; exact R.led
    rw [List.length_map] at q9
    by_cases hf : t1.tooFull = true
    · first
        | (refine wpAny_bind ?_; refine wp_if_pos (by simp [hf]) ?_)
        | (refine wp_if_pos (by simp [hf]) ?_; refine wpAny_bind ?_)
      have hfull : (L.length + 1) * 5 ≥ t.mask * 3 := by
        have h := hf
        unfold SetTable.tooFull at h
        rw [decide_eq_true_eq, q9, q4] at h
        exact h
      rw [hsl]
      obtain ⟨M, m1, m2, m3, m4⟩ := next_mask R.tab.mok hroom hfull hfew
      have hmk : 7 ≤ t.mask := by rcases R.tab.mok with e | e | e | e | e | e <;> omega
      refine lay (s := { s with heap := h1 }) ho1 ⟨hex.1, hex.2.1, hex.2.2⟩ rfl hin q3 (by rw [hlen, q4]; omega) nd1 tup1 hp1 ld1 m1 m2 m3 (by rw [hlen]; exact m4) ?_
      intro h2 L2 es2 ep2 t2 sb2 R2 pm2
      exact wpAny_pure (hQ true h2 L2 es2 ep2 t2 (sb.trans sb2) R2 (fun z => absurd z hm) fun _ => pm2.trans pm)
    · first
        | refine wp_if_neg (by simp [hf]) ?_
        | (refine wpAny_bind ?_; refine wp_if_neg (by simp [hf]) ?_; refine wpAny_pure ?_)
      refine wpAny_pure (hQ true h1 L1 es1 (ep + 1) t1 sb ⟨⟨_, ho1, ⟨hex.1, hex.2.1, hex.2.2⟩, rfl⟩, hin, q3, nd1, tup1, hp1, ld1, ?_⟩ (fun z => absurd z hm) fun _ => pm)
      have h := hf
      unfold SetTable.tooFull at h
      rw [decide_eq_true_eq, q9] at h
      rw [hlen]
      omega
end
end BS
end
section
set_option Elab.async false
set_option linter.all false
set_option maxRecDepth 100000
set_option maxHeartbeats 4000000
namespace BS
open PySem PySem.Spec L2 PyProof.Rows
section
variable {P : Program} {w : World} {A : Around} {E : Value → Shared → Prop} {s : Shared}
theorem SetB.keep {h h' : Heap} {a : Addr} {L : List (Addr × List Int)} {es : Array (Int × Value)} {ep : Nat} {t : SetTable} (R : SetB P w h a L es ep t) (ha : ∀ o, h.get? a = some o → h'.get? a = some o) (ht : ∀ p ∈ L, IsT P w h' p.2 p.1) : SetB P w h' a L es ep t := by
  obtain ⟨o, ho, r⟩ := R.ob
  exact { R with ob := ⟨o, ha o ho, r⟩, tup := ht }
theorem fresh {h : Heap} {a : Addr} (ho : h.get? a = some { cls := .type "set", dict := none, data := .set #[] 0 (.fresh 0 0 (!w.params.followText "set-order")) }) : SetB P w h a [] #[] 0 (.fresh 0 0 (!w.params.followText "set-order")) where
  ob := ⟨_, ho, ⟨rfl, rfl, rfl⟩, rfl⟩
  rows := rfl
  tab := ⟨List.Pairwise.nil, rfl, rfl, .inl rfl, (fun x hx => nomatch hx), fun i h j hi => (by simp at hi)⟩
  nd := List.nodup_nil
  tup := fun p hp => nomatch hp
  plain := rfl
  led := by
    show _ ∨ (!w.params.followText "set-order") = true
    cases w.params.followText "set-order"
    · exact .inr rfl
    · exact .inl rfl
  room := show 0 * 5 < 7 * 3 by decide
theorem update {I : Addr} {fp wr : List Addr} {G : Array GenState → Array GenState → Prop} {n : Nat} {Pv : Nat → Value → Prop} {St : Nat → Shared → Prop} {R : Result → Shared → Prop}
    (W : WalksS P w A.in1 I fp wr G n Pv St) (S : Addr) (hSf : S ∉ fp) (ks : List (Addr × List Int)) (hn : n = ks.length) (hfew : ks.length < 4000) (hval : ∀ i v, Pv i v → ∃ p, ks[i]? = some p ∧ v = .ref p.1)
    (h0 : Heap) (hk : ∀ p ∈ ks, IsT P w h0 p.2 p.1) (hS0 : h0.get? S = none) (hw0 : ∀ b ∈ wr, h0.get? b = none) (hu : A.in1.units < cLine) :
    ∀ (k i : Nat) (s : Shared), n - i = k → i ≤ n → St i s → (∀ b o, h0.get? b = some o → s.heap.get? b = some o) → (∃ L es ep t, SetB P w s.heap S L es ep t ∧ Got ks i L) →
      (∀ s' L es ep t, Moved (S :: wr) G s s' → SetB P w s'.heap S L es ep t → Got ks n L → (∀ b o, h0.get? b = some o → s'.heap.get? b = some o) → R (.ok (.ret .none)) s') →
      codeAny (model P w) A (.builtin "set.update.loop" ⟨[.ref S, .ref I], []⟩) R s := by
  have hSw : S ∉ wr := fun h => hSf (W.sub _ h)
  have hsub : ∀ b ∈ wr, b ∈ S :: wr := fun b hb => List.mem_cons_of_mem _ hb
  have keepM : ∀ {s s' : Shared}, Moved wr G s s' → (∀ b o, h0.get? b = some o → s.heap.get? b = some o) → ∀ b o, h0.get? b = some o → s'.heap.get? b = some o := fun hm hkp b o e =>
    hm.heap b o (fun hb => by rw [hw0 b hb] at e; cases e) (hkp b o e)
  intro k
  induction k with
  | zero =>
    intro i s hk' hi hst hkp ⟨L, es, ep, t, hS, g⟩ hR
    have hin : i = n := by omega
    subst hin
    refine codeAny_builtin F.entry_set_update_loop ?_
    rw [Around.under_plainId F.plain_set_update_loop _]
    show wpAny _ A.in1 (pyNext (.ref I) >>= _) _ _ s
    refine wpAny_bind (W.done s _ _ hst fun s' hm => ?_)
    show wpAny _ A.in1 (ret Value.none) _ _ s'
    have hkp' := keepM hm hkp
    exact wpAny_pure (hR s' L es ep t (hm.mono hsub) (hS.keep (fun o e => hm.heap S o hSw e) fun p hp => isT_keep (hk p (List.mem_of_mem_take (g.sub p hp))) hkp') g hkp')
  | succ k ih =>
    intro i s hk' hi hst hkp ⟨L, es, ep, t, hS, g⟩ hR
    have hlt : i < n := by omega
    refine codeAny_builtin F.entry_set_update_loop ?_
    rw [Around.under_plainId F.plain_set_update_loop _]
    show wpAny _ A.in1 (pyNext (.ref I) >>= _) _ _ s
    refine wpAny_bind (W.item i s _ _ hlt hst fun v s' hP hst' hm => ?_)
    obtain ⟨p, hp, rfl⟩ := hval i v hP
    have hkp' := keepM hm hkp
    have hS' : SetB P w s'.heap S L es ep t := hS.keep (fun o e => hm.heap S o hSw e) fun q hq => isT_keep (hk q (List.mem_of_mem_take (g.sub q hq))) hkp'
    have hx : IsT P w s'.heap p.2 p.1 := isT_keep (hk p (List.mem_of_getElem? hp)) hkp'
    show wpAny _ A.in1 (holding [Value.ref p.1] (setAdd S (.ref p.1)) >>= _) _ _ s'
    refine wpAny_bind (wpAny_holding ?_)
    unfold setAdd
    refine wpAny_holding ?_
    refine wpAny_bind (wpAny_pyHash_tuple hu hx ?_)
    refine add (s := { s' with toks := s'.toks + (p.2.length + 1) }) hS' hx hu (by have := g.len; omega) fun b h' L' es' ep' t' hsb hS2 c1 c2 => ?_
    have g' : Got ks (i + 1) L' := by
      rcases Classical.em (p.2 ∈ L.map (·.2)) with c | c
      · rw [c1 c]; exact g.same hp c
      · exact g.more hp (c2 c)
    have hkp2 : ∀ b o, h0.get? b = some o → h'.get? b = some o := fun b o e => (hsb.2 b (fun z => by rw [z, hS0] at e; cases e)).trans (hkp' b o e)
    refine wpAny_pure ⟨plainId_quiet F.plain_set_update_loop _, ih (i + 1) _ (by omega) hlt (W.frame _ s' _ _ hst' (Nat.le_add_right _ _) fun b hb o e => ?_) hkp2 ⟨L', es', ep', t', hS2, g'⟩ fun s'' L2 es2 ep2 t2 hm'' hS'' g'' hkp'' => ?_⟩
    · rw [hsb.2 b (fun h : b = S => hSf (by rw [← h]; exact hb))]; exact e
    · refine hR s'' L2 es2 ep2 t2 (Moved.trans W.gtrans ((hm.mono hsub).then_heap (Nat.le_add_right _ _) fun b o hb e => ?_) hm'') hS'' g'' hkp''
      rw [hsb.2 b (fun h : b = S => hb (by rw [h]; exact List.mem_cons_self))]; exact e
end
end BS
end
section
set_option Elab.async false
set_option linter.all false
set_option maxRecDepth 100000
set_option maxHeartbeats 4000000
namespace BS
open PySem PySem.Spec L2 PyProof.Rows
section
variable {P : Program} {w : World} {A : Around} {E : Value → Shared → Prop} {s : Shared}
/-- set(t), t a tuple of tuples of ints -/
theorem call_set_tuple {l : Addr} {items : Array Value} (ks : List (Addr × List Int)) {Q : Value → Shared → Prop} (hh : A.handled = none) (hl : s.heap.IsTuple l items) (hit : items.toList = ks.map fun p => Value.ref p.1)
    (hk : ∀ p ∈ ks, IsT P w s.heap p.2 p.1) (hfew : ks.length < 4000) (hu : A.units + 3 < cLine)
    (h : ∀ (h' : Heap) (tk : Nat) L es ep t, SetB P w h' s.heap.objs.size L es ep t → Got ks ks.length L → (∀ b o, s.heap.get? b = some o → h'.get? b = some o) → Q (.ref s.heap.objs.size) { s with heap := h', toks := tk }) :
    wpAny (model P w) A (call (.type "set") [.ref l]) Q E s := by
  have hn : items.size = ks.length := by simpa using congrArg List.length hit
  generalize hob : ({ cls := .type "set", dict := none, data := .set #[] 0 (.fresh 0 0 (!w.params.followText "set-order")) } : Obj) = ob
  obtain ⟨c, tl, hmro⟩ := F.called_set.mro
  have f1 := F.called_set.made
  have f2 := F.called_set.sub
  have f3 := F.called_set.notType
  have f4 := F.called_set.canCreate
  have f5 := F.typeCall_set_1 (.ref l)
  have f6 := F.called_set.init.lookup
  have f7 := F.called_set.init.bind (.ref s.heap.objs.size)
  have hat : (s.heap.push ob).get? s.heap.objs.size = some ob := Heap.get?_push_size _ (by rw [← hob]; rfl)
  refine wpAny_call (codeAny_of_tree ?_)
  show wpAny _ _ (callAny (.type "set") _) _ _ _
  refine wpAny_pure ⟨Code.quiet_builtin _ (by decide +kernel), codeAny_builtin F.entry_type_call ?_⟩
  rw [Around.under_plain (weight_type_call_type "set" [.ref l] []) rfl]
  repeat (any_goals (first | assumption | wp_step))
  refine codeAny_mono (code_set_led1 (.ref l) (E := E) (Q₁ := fun obj s₁ => obj = .ref s.heap.objs.size ∧ s₁ = { s with heap := s.heap.push ob }) ⟨rfl, by rw [← hob]⟩) fun r s₁ hr => ?_
  match r, hr with
  | .error _, hr => exact hr
  | .ok (.ret obj), hr =>
    obtain ⟨rfl, rfl⟩ := hr
    have hT : Shared.TypeIs { s with heap := s.heap.push ob } (.ref s.heap.objs.size) "set" := ⟨_, hat, by rw [← hob]⟩
    repeat (any_goals (first | assumption | wp_step))
    refine codeAny_mono (codeAny_call_builtin (R := wants (fun r s₂ => r = .none ∧ ∃ h' tk L es ep t, s₂ = { s with heap := h', toks := tk } ∧ SetB P w h' s.heap.objs.size L es ep t ∧ Got ks ks.length L ∧
        (∀ b o, s.heap.get? b = some o → h'.get? b = some o)) E) F.called_set.init.plain F.entry_set_init (check_set_init_1 hT ?_)) fun r₂ s₂ hr₂ => ?_
    · subst hob
      obtain ⟨⟨oc, od, oda, osl⟩, g1, g2, n, g3⟩ := hl
      cases g2
      cases g3
      have g4 := F.sub_tuple_set
      have g5 := F.sub_tuple_frozenset
      have g6 : (Value.type "tuple" == Value.type "dict") = false := by decide
      have g7 : (s.heap.push { cls := .type "set", dict := none, data := .set #[] 0 (.fresh 0 0 (!w.params.followText "set-order")) }).get? l = some { cls := .type "tuple", dict := od, data := .seq items n, slots := osl } := Heap.get?_push_of_some _ g1
      have g8 : (s.heap.push { cls := .type "set", dict := none, data := .set #[] 0 (.fresh 0 0 (!w.params.followText "set-order")) }).IsTuple l items := ⟨_, g7, rfl, n, rfl⟩
      have hlt : l < s.heap.objs.size := Heap.lt_size g1
      have hsz : (s.heap.push { cls := .type "set", dict := none, data := .set #[] 0 (.fresh 0 0 (!w.params.followText "set-order")) }).objs.size = s.heap.objs.size + 1 := Heap.size_push ..
      have gone : ∀ b, s.heap.objs.size ≤ b → s.heap.get? b = none := fun b hb => by
        cases q : s.heap.get? b with
        | none => rfl
        | some o => exact absurd (Heap.lt_size q) (Nat.not_lt.mpr hb)
      unfold Builtin.«set.__init__» noKeywords Builtin.Frozenset.updateFrom
      generalize hPI : pyIter = PI
      wp_walk
      subst hPI
      refine wpAny_pyIter_tuple g8 ?_
      refine wpAny_bind (wpAny_runValue ?_)
      have k1 : A.in1.in1.in1.handled = none := by simp [hh]
      have k2 : l ≠ (s.heap.push { cls := .type "set", dict := none, data := .set #[] 0 (.fresh 0 0 (!w.params.followText "set-order")) }).objs.size := by rw [hsz]; exact Nat.ne_of_lt (Nat.lt_succ_of_lt hlt)
      have k3 : s.heap.objs.size ∉ [(s.heap.push { cls := .type "set", dict := none, data := .set #[] 0 (.fresh 0 0 (!w.params.followText "set-order")) }).objs.size, l] := by
        rw [hsz]
        simp only [List.mem_cons, List.not_mem_nil, or_false, not_or]
        exact ⟨Nat.ne_of_lt (Nat.lt_succ_self _), Nat.ne_of_gt hlt⟩
      refine update ((Walks.tuple k1 _ l k2 items).toS) s.heap.objs.size k3 ks hn hfew (fun i v hv => ?_) s.heap hk (gone _ (Nat.le_refl _)) (fun b hb => gone b ?_) hu (items.size - 0) 0 _ (by omega) (Nat.zero_le _)
        ⟨⟨_, Heap.get?_push_size _ rfl, rfl, rfl⟩, g8.push _⟩ (fun b o e => Heap.get?_push_of_some _ (Heap.get?_push_of_some _ e)) ⟨[], #[], 0, _, fresh (Heap.get?_push_of_some _ hat), Got.zero ks⟩ fun s' L es ep t hm hS' g' hkp => ?_
      · have q : items.toList[i]? = some v := by rw [Array.getElem?_toList]; exact hv
        rw [hit, List.getElem?_map] at q
        obtain ⟨p, e1, e2⟩ := Option.map_eq_some_iff.mp q
        exact ⟨p, e1, e2.symm⟩
      · rw [List.mem_singleton.mp hb, hsz]
        exact Nat.le_succ _
      · rw [hn] at g'
        obtain ⟨h', _, _, tk', _⟩ := s'
        cases hm.gens
        cases hm.drawn
        cases hm.os
        show wpAny _ _ _ _ _ _
        refine wpAny_pure ?_
        show wpAny _ _ (ret Value.none) _ _ _
        exact wpAny_pure ⟨rfl, h', tk', L, es, ep, t, rfl, hS', g', hkp⟩
    · match r₂, hr₂ with
      | .error _, hr₂ => exact hr₂
      | .ok (.ret _), hr₂ =>
        obtain ⟨rfl, h', tk, L, es, ep, t, rfl, hS', g', hk'⟩ := hr₂
        repeat (any_goals (first | assumption | wp_step))
        exact h _ _ _ _ _ _ hS' g' hk'
/-- set(t), t a list of tuples of ints -/
theorem call_set_list {l : Addr} {items : Array Value} (ks : List (Addr × List Int)) {Q : Value → Shared → Prop} (hh : A.handled = none) (hl : s.heap.IsList l items) (hit : items.toList = ks.map fun p => Value.ref p.1)
    (hk : ∀ p ∈ ks, IsT P w s.heap p.2 p.1) (hfew : ks.length < 4000) (hu : A.units + 3 < cLine)
    (h : ∀ (h' : Heap) (tk : Nat) L es ep t, SetB P w h' s.heap.objs.size L es ep t → Got ks ks.length L → (∀ b o, s.heap.get? b = some o → h'.get? b = some o) → Q (.ref s.heap.objs.size) { s with heap := h', toks := tk }) :
    wpAny (model P w) A (call (.type "set") [.ref l]) Q E s := by
  have hn : items.size = ks.length := by simpa using congrArg List.length hit
  generalize hob : ({ cls := .type "set", dict := none, data := .set #[] 0 (.fresh 0 0 (!w.params.followText "set-order")) } : Obj) = ob
  obtain ⟨c, tl, hmro⟩ := F.called_set.mro
  have f1 := F.called_set.made
  have f2 := F.called_set.sub
  have f3 := F.called_set.notType
  have f4 := F.called_set.canCreate
  have f5 := F.typeCall_set_1 (.ref l)
  have f6 := F.called_set.init.lookup
  have f7 := F.called_set.init.bind (.ref s.heap.objs.size)
  have hat : (s.heap.push ob).get? s.heap.objs.size = some ob := Heap.get?_push_size _ (by rw [← hob]; rfl)
  refine wpAny_call (codeAny_of_tree ?_)
  show wpAny _ _ (callAny (.type "set") _) _ _ _
  refine wpAny_pure ⟨Code.quiet_builtin _ (by decide +kernel), codeAny_builtin F.entry_type_call ?_⟩
  rw [Around.under_plain (weight_type_call_type "set" [.ref l] []) rfl]
  repeat (any_goals (first | assumption | wp_step))
  refine codeAny_mono (code_set_led1 (.ref l) (E := E) (Q₁ := fun obj s₁ => obj = .ref s.heap.objs.size ∧ s₁ = { s with heap := s.heap.push ob }) ⟨rfl, by rw [← hob]⟩) fun r s₁ hr => ?_
  match r, hr with
  | .error _, hr => exact hr
  | .ok (.ret obj), hr =>
    obtain ⟨rfl, rfl⟩ := hr
    have hT : Shared.TypeIs { s with heap := s.heap.push ob } (.ref s.heap.objs.size) "set" := ⟨_, hat, by rw [← hob]⟩
    repeat (any_goals (first | assumption | wp_step))
    refine codeAny_mono (codeAny_call_builtin (R := wants (fun r s₂ => r = .none ∧ ∃ h' tk L es ep t, s₂ = { s with heap := h', toks := tk } ∧ SetB P w h' s.heap.objs.size L es ep t ∧ Got ks ks.length L ∧
        (∀ b o, s.heap.get? b = some o → h'.get? b = some o)) E) F.called_set.init.plain F.entry_set_init (check_set_init_1 hT ?_)) fun r₂ s₂ hr₂ => ?_
    · subst hob
      obtain ⟨⟨oc, od, oda, osl⟩, g1, g2, n, g3⟩ := hl
      cases g2
      cases g3
      have g4 := F.sub_list_set
      have g5 := F.sub_list_frozenset
      have g6 : (Value.type "list" == Value.type "dict") = false := by decide
      have g7 : (s.heap.push { cls := .type "set", dict := none, data := .set #[] 0 (.fresh 0 0 (!w.params.followText "set-order")) }).get? l = some { cls := .type "list", dict := od, data := .seq items n, slots := osl } := Heap.get?_push_of_some _ g1
      have g8 : (s.heap.push { cls := .type "set", dict := none, data := .set #[] 0 (.fresh 0 0 (!w.params.followText "set-order")) }).IsList l items := ⟨_, g7, rfl, n, rfl⟩
      have hlt : l < s.heap.objs.size := Heap.lt_size g1
      have hsz : (s.heap.push { cls := .type "set", dict := none, data := .set #[] 0 (.fresh 0 0 (!w.params.followText "set-order")) }).objs.size = s.heap.objs.size + 1 := Heap.size_push ..
      have gone : ∀ b, s.heap.objs.size ≤ b → s.heap.get? b = none := fun b hb => by
        cases q : s.heap.get? b with
        | none => rfl
        | some o => exact absurd (Heap.lt_size q) (Nat.not_lt.mpr hb)
      unfold Builtin.«set.__init__» noKeywords Builtin.Frozenset.updateFrom
      generalize hPI : pyIter = PI
      wp_walk
      subst hPI
      refine wpAny_pyIter_list g8 ?_
      refine wpAny_bind (wpAny_runValue ?_)
      have k1 : A.in1.in1.in1.handled = none := by simp [hh]
      have k2 : l ≠ (s.heap.push { cls := .type "set", dict := none, data := .set #[] 0 (.fresh 0 0 (!w.params.followText "set-order")) }).objs.size := by rw [hsz]; exact Nat.ne_of_lt (Nat.lt_succ_of_lt hlt)
      have k3 : s.heap.objs.size ∉ [(s.heap.push { cls := .type "set", dict := none, data := .set #[] 0 (.fresh 0 0 (!w.params.followText "set-order")) }).objs.size, l] := by
        rw [hsz]
        simp only [List.mem_cons, List.not_mem_nil, or_false, not_or]
        exact ⟨Nat.ne_of_lt (Nat.lt_succ_self _), Nat.ne_of_gt hlt⟩
      refine update ((Walks.list k1 _ l k2 items).toS) s.heap.objs.size k3 ks hn hfew (fun i v hv => ?_) s.heap hk (gone _ (Nat.le_refl _)) (fun b hb => gone b ?_) hu (items.size - 0) 0 _ (by omega) (Nat.zero_le _)
        ⟨⟨_, Heap.get?_push_size _ rfl, rfl, rfl⟩, g8.push _⟩ (fun b o e => Heap.get?_push_of_some _ (Heap.get?_push_of_some _ e)) ⟨[], #[], 0, _, fresh (Heap.get?_push_of_some _ hat), Got.zero ks⟩ fun s' L es ep t hm hS' g' hkp => ?_
      · have q : items.toList[i]? = some v := by rw [Array.getElem?_toList]; exact hv
        rw [hit, List.getElem?_map] at q
        obtain ⟨p, e1, e2⟩ := Option.map_eq_some_iff.mp q
        exact ⟨p, e1, e2.symm⟩
      · rw [List.mem_singleton.mp hb, hsz]
        exact Nat.le_succ _
      · rw [hn] at g'
        obtain ⟨h', _, _, tk', _⟩ := s'
        cases hm.gens
        cases hm.drawn
        cases hm.os
        show wpAny _ _ _ _ _ _
        refine wpAny_pure ?_
        show wpAny _ _ (ret Value.none) _ _ _
        exact wpAny_pure ⟨rfl, h', tk', L, es, ep, t, rfl, hS', g', hkp⟩
    · match r₂, hr₂ with
      | .error _, hr₂ => exact hr₂
      | .ok (.ret _), hr₂ =>
        obtain ⟨rfl, h', tk, L, es, ep, t, rfl, hS', g', hk'⟩ := hr₂
        repeat (any_goals (first | assumption | wp_step))
        exact h _ _ _ _ _ _ hS' g' hk'
end
end BS
end
section
set_option Elab.async false
set_option linter.all false
set_option maxRecDepth 100000
set_option maxHeartbeats 4000000
namespace BS
open PySem PySem.W PySem.Calls PyProof.Rows PySem.SeqAt
section
variable {prog : Program} {w : World} {A : Around} {E : Value → Shared → Prop} {s : Shared}
theorem call_tuple_lt {Q : Value → Shared → Prop} {l b : Addr} {items items2 : Array Value} {e r : Nat → Bool} (hl : s.heap.IsTuple l items) (hb : s.heap.IsTuple b items2)
    (he : ∀ j (h1 : j < items.size) (h2 : j < items2.size), EqAt A.in1 s items[j] items2[j] (e j)) (hr : ∀ j (h1 : j < items.size) (h2 : j < items2.size), e j = false → RcLt A.in1 s items[j] items2[j] (r j))
    (h : Q (.bool (firstLt e r (decide (items.size < items2.size)) (List.range (min items.size items2.size)))) s) : wpAny (model prog w) A (call (.builtin "tuple.__lt__") [.ref l, .ref b]) Q E s := by
  obtain ⟨⟨cls, dd, data, sl⟩, ho, hc, n, hd⟩ := id hl
  obtain ⟨⟨cls2, dd2, data2, sl2⟩, ho2, hc2, n2, hd2⟩ := id hb
  simp only at hc hd hc2 hd2
  subst hc hd hc2 hd2
  exact call_meets F.slot_tuple_lt ⟨_, ho, rfl⟩ F.entry_tuple_lt (F.args_tuple_lt_2 _ _) (tuple_ltAt l b items items2 n n2 dd dd2 sl sl2 e r) ⟨ho, ho2, he, hr, h⟩
theorem oneLt_tuples {xs ys : List PyData} {a b : Value} {as bs : List Addr} {Q : Bool → Shared → Prop} (ra : Reads s.heap a (.tuple xs) as) (rb : Reads s.heap b (.tuple ys) bs) (h : alike (.tuple xs) (.tuple ys) = true)
    (hu : A.units + min (PyData.tuple xs).depth (PyData.tuple ys).depth < cLine) (hq : Q (dataLt (.tuple xs) (.tuple ys)) s) : wpAny (model prog w) A (oneLt' true a b) Q E s := by
  have hal : alikeAll xs ys = true := by simpa [alike] using h
  cases ra with
  | @tuple l o vs n _ as₁ h1 h2 h3 h4 =>
    cases rb with
    | @tuple l' o' vs' n' _ bs₁ k1 k2 k3 k4 =>
      have n1 : vs.size = xs.length := by simpa using ReadsAll.length _ _ _ h4
      have n2 : vs'.size = ys.length := by simpa using ReadsAll.length _ _ _ k4
      rw [dataLt_tuple, ← firstLt_toks xs ys hal, ← n1, ← n2] at hq
      rw [oneLt'_eq]
      simp only [if_true]
      refine wpAny_bind (wpAny_cRoomFor (room_here hu) ?_)
      refine wpAny_bind (wpAny_callSpecialIfBound?_slot (T := "tuple") ⟨_, h1, h2⟩ F.slot_tuple_lt (call_tuple_lt (e := pairEq xs ys) (r := fun j => dataLt (xs.getD j .none) (ys.getD j .none)) ⟨_, h1, h2, _, h3⟩ ⟨_, k1, k2, _, k3⟩ (fun j j1 j2 => ?_) (fun j j1 j2 hj => ?_) ?_))
      · have := eqAt_alikeAll xs ys A.in1 s vs.toList vs'.toList _ _ h4 k4 hal (room_in hu) j (by simpa using j1) (by simpa using j2)
        simpa using this
      · have := rcLt_alikeAll xs ys A.in1 s vs.toList vs'.toList _ _ h4 k4 hal (room_in hu) j (by simpa using j1) (by simpa using j2) hj
        simpa using this
      · exact wpAny_truthy_bool hq
def fullT : PyData → Bool
  | .tuple [] => false
  | _ => true
theorem fullT_of {xs : List PyData} (h : PyData.tuple xs ≠ .tuple []) : fullT (.tuple xs) = true := by
  cases xs with
  | nil => exact absurd rfl h
  | cons x r => rfl
/-- the first item of each of some tuples, if it has one -/
theorem firsts_tups : ∀ (vs : List Value) (ds : List PyData) {Q : List (Option Value) → Shared → Prop}, EachIs (fun v d => ∃ as, Reads s.heap v d as) vs ds → (∀ d ∈ ds, ∃ xs, d = .tuple xs) → (∀ fs : List (Option Value), EachIs (fun f d => f.isSome = fullT d) fs ds → Q fs s) → wpAny (model prog w) A (vs.mapM firstOfTuple') Q E s
  | [], _, _, .nil, _, h => by rw [List.mapM_nil]; exact wpAny_pure (h [] .nil)
  | v :: vs, d :: ds, Q, .cons ⟨as, r⟩ t, ht, h => by
    obtain ⟨xs, rfl⟩ := ht d List.mem_cons_self
    rw [List.mapM_cons]
    refine wpAny_bind ?_
    rw [kas_first_eq]
    refine wpAny_bind ((looks_reads r).here ?_)
    rw [if_neg (by first | decide | simp [dataType])]
    cases r with
    | @tuple a o ys n _ _ h1 h2 h3 h4 =>
      refine wpAny_bind (listItems_at h1 h3 (wpAny_pure ?_))
      refine wpAny_bind (firsts_tups vs ds t (fun d hd => ht d (List.mem_cons_of_mem _ hd)) fun fs hfs => wpAny_pure (h _ (.cons ?_ hfs)))
      have n1 : ys.size = xs.length := by simpa using ReadsAll.length _ _ _ h4
      cases xs with
      | nil =>
        have : ys[0]? = none := by simp at n1; simp [n1]
        rw [this]
        rfl
      | cons x r =>
        have : 0 < ys.size := by rw [n1]; simp
        rw [Array.getElem?_eq_getElem this]
        rfl
theorem each_at {α β : Type} {R : α → β → Prop} : ∀ {as : List α} {bs : List β}, EachIs R as bs → ∀ b ∈ bs, ∃ a ∈ as, R a b
  | _, _, .nil, b, h => nomatch h
  | _, _, .cons h t, b, hb => by
    rcases List.mem_cons.mp hb with rfl | hb
    · exact ⟨_, List.mem_cons_self, h⟩
    · obtain ⟨a, ha, r⟩ := each_at t b hb
      exact ⟨a, List.mem_cons_of_mem _ ha, r⟩
theorem sortsAt_tuples {vs : List Value} {ds : List PyData} (e : EachIs (fun v d => ∃ as, Reads s.heap v d as) vs ds) (hal : AllAlike ds) (ht : ∀ d ∈ ds, ∃ xs, d = .tuple xs) (hu : ∀ d, d ∈ ds → A.units + d.depth < cLine) : SortsAt prog w A s (dataKind s.heap ds) vs := by
  have room : ∀ {d d' : PyData}, d ∈ ds → A.units + min d.depth d'.depth < cLine := fun {d d'} hd => Nat.lt_of_le_of_lt (Nat.add_le_add_left (Nat.min_le_left _ _) _) (hu d hd)
  by_cases hne : ∀ d ∈ ds, ∃ x r, d = .tuple (x :: r)
  · exact SortsAt.data e hal (.inl hne) hu
  have gen : H.LtAt prog w A s (dataKind s.heap ds) general' := by
    intro E x y a b Q ha hb hq
    obtain ⟨d, as, hd, ra, rfl⟩ := dataKind_inv ha
    obtain ⟨d', as', hd', rb, rfl⟩ := dataKind_inv hb
    obtain ⟨xs, rfl⟩ := ht d hd
    exact oneLt_alike (f := false) (fun h => nomatch h) ra rb (hal _ hd d' hd') (fun h => nomatch h) (room hd) hq
  have one : H.LtAt prog w A s (dataKind s.heap ds) oneType' := by
    intro E x y a b Q ha hb hq
    obtain ⟨d, as, hd, ra, rfl⟩ := dataKind_inv ha
    obtain ⟨d', as', hd', rb, rfl⟩ := dataKind_inv hb
    obtain ⟨xs, rfl⟩ := ht d hd
    obtain ⟨ys, rfl⟩ := ht d' hd'
    rw [keyLt'_oneType]
    exact oneLt_tuples ra rb (hal _ hd _ hd') (room hd) hq
  refine ⟨fun v hv => ?_, ?_⟩
  · obtain ⟨d, hd, as, r⟩ := e.left v hv
    exact ⟨_, dataKind_some hal hd r⟩
  · obtain ⟨d1, hd1, hd2⟩ : ∃ d ∈ ds, d = .tuple [] := by
      refine Classical.byContradiction fun hno => hne fun d hd => ?_
      obtain ⟨xs, rfl⟩ := ht d hd
      cases xs with
      | nil => exact absurd ⟨_, hd, rfl⟩ hno
      | cons x r => exact ⟨x, r, rfl⟩
    cases ds with
    | nil => cases hd1
    | cons d₀ ds₀ =>
      cases vs with
      | nil => cases e
      | cons v₀ vs₀ =>
        have notall : ∀ fs : List (Option Value), EachIs (fun f d => f.isSome = fullT d) fs (d₀ :: ds₀) → (fs.toArray.all fun x => x.isSome) = false := by
          intro fs hfs
          obtain ⟨f, hf, hfd⟩ := each_at hfs d1 hd1
          rw [hd2] at hfd
          simp only [List.all_toArray]
          rw [List.all_eq_false]
          exact ⟨f, hf, by rw [hfd]; simp [fullT]⟩
        by_cases h0 : d₀ = .tuple []
        · refine ⟨oneType', one, fun h2 E Q hq => ?_⟩
          rw [keyKind'_eq, List.mapM_toArray, map_eq_pure_bind]
          refine wpAny_bind (wpAny_bind (firsts_tups _ _ e ht fun fs hfs => wpAny_pure ?_))
          rw [if_neg (by rw [notall fs hfs]; simp)]
          cases hfs with
          | @cons f d fs' ds' hf hr =>
            rw [h0] at hf
            have hf' : f = none := by
              cases f with
              | none => rfl
              | some x => simp [fullT] at hf
            subst hf'
            rw [if_neg (by simp)]
            rw [oneTypeOnly'_eq, List.mapM_toArray, map_eq_pure_bind]
            refine wpAny_bind (wpAny_bind (wpAny_bind (kas_mapM (r := Value.type "tuple") _ (fun v hv Q' hq => ?_) (wpAny_pure ?_))))
            · obtain ⟨d, hd, as, r⟩ := e.left v hv
              obtain ⟨xs, rfl⟩ := ht d hd
              exact (looks_reads r).here hq
            · have hall : ((List.map (fun _ => Value.type "tuple") (v₀ :: vs₀)).toArray.all fun x => x == Value.type "tuple") = true := by
                simp only [List.all_toArray, List.all_map, List.all_eq_true]
                intro _ _
                exact beq_self_eq_true _
              have h0 : (List.map (fun _ => Value.type "tuple") (v₀ :: vs₀)).toArray[0]? = some (Value.type "tuple") := by simp
              rw [h0]
              simp only [hall, if_true]
              exact wpAny_pure (wpAny_pure hq)
        · refine ⟨general', gen, fun h2 E Q hq => ?_⟩
          rw [keyKind'_eq, List.mapM_toArray, map_eq_pure_bind]
          refine wpAny_bind (wpAny_bind (firsts_tups _ _ e ht fun fs hfs => wpAny_pure ?_))
          rw [if_neg (by rw [notall fs hfs]; simp)]
          cases hfs with
          | @cons f d fs' ds' hf hr =>
            obtain ⟨zs, rfl⟩ := ht d₀ List.mem_cons_self
            rw [fullT_of h0] at hf
            obtain ⟨x, rfl⟩ := Option.isSome_iff_exists.mp hf
            rw [if_pos (by simp)]
            exact wpAny_pure hq
def SortX (ds : List PyData) : Prop := Sortable ds ∨ ∀ d ∈ ds, ∃ xs, d = .tuple xs
theorem sortsAt_X {vs : List Value} {ds : List PyData} (e : EachIs (fun v d => ∃ as, Reads s.heap v d as) vs ds) (hal : AllAlike ds) (hk : SortX ds) (hu : ∀ d, d ∈ ds → A.units + d.depth < cLine) : SortsAt prog w A s (dataKind s.heap ds) vs := by
  rcases hk with hk | hk
  · exact SortsAt.data e hal hk hu
  · exact sortsAt_tuples e hal hk hu
variable {β : Type} {vs : List Value} {bs : List β} {enc : β → PyData} {R : Value → β → Prop}
theorem sorted_X {l : Addr} {Q : Value → Shared → Prop} (hl : s.heap.IsList l vs.toArray) (e : EachIs R vs bs) (er : EachIs (fun v b => ∃ as, Reads s.heap v (enc b) as) vs bs) (hal : AllAlike (bs.map enc)) (hk : SortX (bs.map enc)) (hL : bs.length ≤ sizeLine)
    (hu : ∀ b, b ∈ bs → A.units + 2 + (enc b).depth < cLine) (h : ∀ out, out.length = bs.length → EachIs R out (bs.mergeSort (dataLe false enc)) → Q (.ref (s.heap.objs.size + 1)) { s with heap := sortedAll s.heap vs (List.toArray out) }) :
    wpAny (model prog w) A (call (.builtin "sorted") [.ref l]) Q E s := by
  have er' : EachIs (fun v b => ∃ as, Reads (sortingHeap (copyHeap s.heap vs) (s.heap.objs.size + 1) vs) v (enc b) as) vs bs := er.mono fun _ _ ⟨as, r⟩ => ⟨as, PyProof.Rows.Reads.keeps (fun _ _ => sorting_copy_old) r⟩
  exact sorted_vals hl (sortsAt_X (s := { s with heap := sortingHeap (copyHeap s.heap vs) (s.heap.objs.size + 1) vs }) (each_map (R := fun v d => ∃ as, Reads (sortingHeap (copyHeap s.heap vs) (s.heap.objs.size + 1) vs) v d as) enc er') hal hk (bound_map hu)) (by rw [e.length]; exact hL)
    (h _ (by rw [sortVals_length false rfl]; exact e.length) (sortVals_data false e er' hal))
theorem list_sort_X {a : Addr} {n : Nat} {Q : Value → Shared → Prop} (ho : s.heap.get? a = some (seqObj "list" vs.toArray n)) (e : EachIs R vs bs) (er : EachIs (fun v b => ∃ as, Reads s.heap v (enc b) as ∧ a ∉ as) vs bs) (hal : AllAlike (bs.map enc)) (hk : SortX (bs.map enc)) (hL : bs.length ≤ sizeLine)
    (hu : ∀ b, b ∈ bs → A.units + 1 + (enc b).depth < cLine) (h : ∀ out, out.length = bs.length → EachIs R out (bs.mergeSort (dataLe false enc)) → Q .none { s with heap := sortedHeap s.heap a vs (List.toArray out) }) :
    wpAny (model prog w) A (call (.builtin "list.sort") [.ref a]) Q E s := by
  have er' : EachIs (fun v b => ∃ as, Reads (sortingHeap s.heap a vs) v (enc b) as) vs bs := each_keepBut (h' := sortingHeap s.heap a vs) (fun _ _ hb q => sortingHeap_old hb q) (fun o q => by rw [ho] at q; rw [← Option.some.inj q]) hal er
  refine wpAny_call_entry PyProof.Rows.slot_list_sort ⟨_, ho, rfl⟩ PyProof.Rows.entry_list_sort (list_sort_vals (κ := dataKind (sortingHeap s.heap a vs) (bs.map enc)) ho (sortsAt_X (s := { s with heap := sortingHeap s.heap a vs }) (each_map (R := fun v d => ∃ as, Reads (sortingHeap s.heap a vs) v d as) enc er') hal hk (bound_map hu)) (by rw [e.length]; exact hL) ⟨.none, rfl, ?_⟩) (PyProof.Rows.args_list_sort _)
  exact h _ (by rw [sortVals_length false rfl]; exact e.length) (sortVals_data false e er' hal)
end
end BS
end
section
set_option Elab.async false
set_option linter.all false
set_option maxRecDepth 100000
set_option maxHeartbeats 4000000
namespace BS
open PySem PySem.Spec L2 PyProof.Rows DL
theorem lt_lexL : ∀ x y : List Int, decide (x < y) = lexL x y
  | [], [] => by simp [lexL]
  | [], y :: ys => by simp [lexL]
  | x :: xs, [] => by simp [lexL]
  | x :: xs, y :: ys => by
    rw [lexL, ← lt_lexL xs ys]
    by_cases h : x < y <;> by_cases h2 : x = y <;> by_cases h3 : xs < ys <;> simp [List.cons_lt_cons_iff, h, h2, h3]
theorem data_lexL (x y : List Int) : PySem.W.dataLt (.tuple (x.map .int)) (.tuple (y.map .int)) = lexL x y := by
  rw [PySem.W.dataLt_tuple]
  exact (PySem.W.dataLt_ints x y).trans (lt_lexL x y)
theorem alike_ints2 : ∀ x y : List Int, PySem.W.alikeAll (x.map .int) (y.map .int) = true
  | [], _ => by simp [PySem.W.alikeAll]
  | _ :: _, [] => by simp [PySem.W.alikeAll]
  | x :: xs, y :: ys => by simp [PySem.W.alikeAll, PySem.W.alike, alike_ints2 xs ys]
abbrev encT (q : Addr × List Int) : PyData := .tuple (q.2.map .int)
theorem le_lexL (p q : Addr × List Int) : PySem.W.dataLe false encT p q = !lexL q.2 p.2 := by
  show (!PySem.W.dataLt (encT q) (encT p)) = _
  rw [data_lexL]
theorem le_tr (x y z : Addr × List Int) (h1 : PySem.W.dataLe false encT x y = true) (h2 : PySem.W.dataLe false encT y z = true) : PySem.W.dataLe false encT x z = true := by
  rw [le_lexL] at *
  simp only [Bool.not_eq_true'] at *
  rcases lexL_tri z.2 x.2 with h | h | h
  · rcases lexL_tri x.2 y.2 with k | k | k
    · rw [lexL_tr h k] at h2; cases h2
    · rw [← k, h] at h2; cases h2
    · rw [k] at h1; cases h1
  · rw [h]; exact lexL_irr _
  · exact Bool.eq_false_iff.mpr fun e => by have := lexL_tr e h; rw [lexL_irr] at this; cases this
theorem le_tot (x y : Addr × List Int) : (PySem.W.dataLe false encT x y || PySem.W.dataLe false encT y x) = true := by
  rw [le_lexL, le_lexL]
  cases h : lexL y.2 x.2 with
  | false => rfl
  | true =>
    cases k : lexL x.2 y.2 with
    | false => rfl
    | true => have := lexL_tr h k; rw [lexL_irr] at this; cases this
theorem each_of {R : Value → (Addr × List Int) → Prop} : ∀ (l : List (Addr × List Int)), (∀ q ∈ l, R (Value.ref q.1) q) → PySem.W.EachIs R (l.map fun q => Value.ref q.1) l
  | [], _ => .nil
  | q :: l, h => .cons (h q List.mem_cons_self) (each_of l fun r hr => h r (List.mem_cons_of_mem _ hr))
theorem of_each : ∀ {out : List Value} {l : List (Addr × List Int)}, PySem.W.EachIs (fun v q => v = Value.ref q.1) out l → out = l.map fun q => Value.ref q.1
  | _, _, .nil => rfl
  | _, _, .cons h r => by rw [h, of_each r]; rfl
section
variable {P : Program} {w : World} {A : Around} {E : Value → Shared → Prop} {s : Shared}
theorem sorted_B {a : Addr} {L : List (Addr × List Int)} {es : Array (Int × Value)} {ep : Nat} {t : SetTable} {Q : Value → Shared → Prop} (R : SetB P w s.heap a L es ep t) (hh : A.handled = none) (hfew : L.length < 4000) (hu : A.units + 64 < cLine)
    (hQ : ∀ s' p (out : Array Value) (c : Nat) (L' : List (Addr × List Int)), (∀ b o, s.heap.get? b = some o → s'.heap.get? b = some o) → s'.gens = s.gens → s'.os = s.os → s.heap.objs.size ≤ p →
      s'.heap.get? p = some (seqObj "list" out c) → out.toList = L'.map (fun q => Value.ref q.1) → L'.Perm L → L'.Pairwise (fun q r => lexL r.2 q.2 = false) → Q (.ref p) s') :
    wpAny (model P w) A (call (.builtin "sorted") [.ref a]) Q E s := by
  obtain ⟨o, ho, hex, hd⟩ := R.ob
  have hsz := rows_len R.rows
  refine Calls.call_function_entry kind_sorted plain_sorted entry_sorted (args_sorted1 _) ?_
  unfold Builtin.«sorted»
  refine wpAny_bind (m := checkCount "sorted" 1 1 _) (wpAny_pure ?_)
  refine wpAny_bind (collect_set (A := A.in1) hh ⟨o, ho, hex.1, hd⟩ R.fits (by unfold scanBound; omega) R.tab.ris R.led fun s1 vs k1 hz g1 o1 pm => ?_)
  have hes : es.toList.map (·.2) = L.map fun q => Value.ref q.1 := by
    rw [R.rows]
    unfold rowsOf
    rw [List.map_map]
    rfl
  rw [hes] at pm
  have one : ∀ q ∈ L, ∀ r ∈ L, q.1 = r.1 → q = r := fun q hq r hr e => by
    have a1 := R.tup q hq
    have a2 := R.tup r hr
    rw [e] at a1
    exact Prod.ext e (a1.inj a2)
  obtain ⟨L1, rfl, hs⟩ : ∃ L1 : List (Addr × List Int), vs = L1.map (fun q => Value.ref q.1) ∧ ∀ q ∈ L1, q ∈ L := by
    have : ∀ vs : List Value, (∀ v ∈ vs, ∃ q ∈ L, v = Value.ref q.1) → ∃ L1 : List (Addr × List Int), vs = L1.map (fun q => Value.ref q.1) ∧ ∀ q ∈ L1, q ∈ L := by
      intro vs
      induction vs with
      | nil => exact fun _ => ⟨[], rfl, fun q hq => nomatch hq⟩
      | cons v vs ih =>
        intro hv
        obtain ⟨q, hq, rfl⟩ := hv v List.mem_cons_self
        obtain ⟨L1, rfl, hs⟩ := ih fun u hu => hv u (List.mem_cons_of_mem _ hu)
        refine ⟨q :: L1, rfl, fun r hr => ?_⟩
        rcases List.mem_cons.mp hr with rfl | z
        · exact hq
        · exact hs r z
    exact this vs fun v hv => by
      obtain ⟨q, hq, e⟩ := List.mem_map.mp (pm.mem_iff.mp hv)
      exact ⟨q, hq, e.symm⟩
  have p1 : L1.Perm L := by
    have nL : L.Nodup := nodup_of_map R.nd
    have nref : (L.map fun q => Value.ref q.1).Nodup := List.pairwise_map.mpr (List.Pairwise.imp_of_mem (fun {q r} hq hr hne e => by
      injection e with e
      exact hne (one q hq r hr e)) nL)
    refine (List.perm_ext_iff_of_nodup (nodup_of_map (pm.nodup_iff.mpr nref)) nL).mpr fun q => ⟨hs q, fun hq => ?_⟩
    obtain ⟨r, hr, e⟩ := List.mem_map.mp (pm.mem_iff.mpr (List.mem_map.mpr ⟨q, hq, rfl⟩))
    injection e with e
    rw [← one r (hs r hr) q hq e]
    exact hr
  have hl1 := p1.length_eq
  refine wpAny_bind (wpAny_newList ?_ (by rw [sizeLine_eq, List.length_map]; omega))
  generalize hvs : (L1.map fun q => Value.ref q.1) = vs
  have hoL : (s1.heap.push (seqObj "list" vs.toArray 0)).get? s1.heap.objs.size = some (seqObj "list" vs.toArray 0) := Heap.get?_push_size _ rfl
  have rd : ∀ q ∈ L1, Reads (s1.heap.push (seqObj "list" vs.toArray 0)) (.ref q.1) (encT q) [] := fun q hq => by
    obtain ⟨ob, items, n, h1, h2, h3, h4⟩ := isT_keep (R.tup q (hs q hq)) fun b u e => Heap.get?_push_of_some _ (k1 b u e)
    exact .tuple h1 h2 h3 (readsAll_of (ints_of_items h4))
  refine wpAny_bind (wpAny_holding (BS.list_sort_X (s := { s1 with heap := s1.heap.push (seqObj "list" vs.toArray 0) }) (enc := encT) (bs := L1) (R := fun v q => v = Value.ref q.1) hoL (by rw [← hvs]; exact each_of L1 fun q _ => rfl) (by rw [← hvs]; exact each_of L1 fun q hq => ⟨[], by rw [hvs]; exact rd q hq, fun z => nomatch z⟩)
    (fun d hd d' hd' => ?_) (.inr fun d hd => ?_) (by rw [sizeLine_eq]; omega) (fun b hb => ?_) fun out a1 a2 => ?_))
  · obtain ⟨q, _, rfl⟩ := List.mem_map.mp hd
    obtain ⟨r, _, rfl⟩ := List.mem_map.mp hd'
    exact alike_ints2 q.2 r.2
  · obtain ⟨q, hq, rfl⟩ := List.mem_map.mp hd
    exact ⟨_, rfl⟩
  · have : (encT b).depth ≤ 1 := by
      simp only [encT, PyData.depth, dep_ints]
      omega
    show A.units + 1 + _ + _ < _
    omega
  · obtain ⟨c, hc⟩ := sortedHeap_at (vs := vs) (out := List.toArray out) hoL
    refine wpAny_pure ⟨_, rfl, hQ _ s1.heap.objs.size (List.toArray out) c (L1.mergeSort (PySem.W.dataLe false encT)) (fun b u e => ?_) g1 o1 hz hc (by simpa using of_each a2) ((List.mergeSort_perm _ _).trans p1) ?_⟩
    · have q := k1 b u e
      have hlt := Heap.lt_size q
      show (sortedHeap (s1.heap.push (seqObj "list" vs.toArray 0)) s1.heap.objs.size vs (List.toArray out)).get? b = some u
      rw [sortedHeap_old (Nat.ne_of_lt hlt) (by rw [size_push']; exact Nat.lt_succ_of_lt hlt)]
      exact Heap.get?_push_of_some _ q
    · refine List.Pairwise.imp (fun {q r} h => ?_) (List.pairwise_mergeSort le_tr le_tot L1)
      rw [le_lexL] at h
      simpa using h
end
end BS
end
section
set_option Elab.async false
set_option linter.all false
set_option maxRecDepth 100000
set_option maxHeartbeats 4000000
namespace BS
open PySem PySem.Spec L2 PyProof.Rows DL
variable [tB : DL.Tb] [gR : Gr]
def SetB0 (P : Program) (w : World) (h : Heap) (a : Addr) (L : List (Addr × List Int)) : Prop :=
  ∃ (es : Array (Int × Value)) (ep : Nat) (t : SetTable), (∃ o, h.get? a = some o ∧ o.ExactSet ∧ o.data = .set es ep t) ∧ es.toList = rowsOf P w L ∧ Tb t (L.map fun p => thash P w p.2) ∧ (L.map (·.2)).Nodup ∧ t.plain = true ∧
    (w.params.followText "set-order" = true ∨ t.led = true) ∧ L.length * 5 < t.mask * 3
def SetBO (P : Program) (w : World) (a : Addr) (L : List (Addr × List Int)) : HO := .ext fun h => SetB0 P w h a L
theorem SetB.b0 {P : Program} {w : World} {h : Heap} {a : Addr} {L : List (Addr × List Int)} {es : Array (Int × Value)} {ep : Nat} {t : SetTable} (R : SetB P w h a L es ep t) : SetB0 P w h a L := ⟨es, ep, t, R.ob, R.rows, R.tab, R.nd, R.plain, R.led, R.room⟩
theorem setBO_new {P : Program} {w : World} {H : Hp} {h : Heap} {a : Addr} {L : List (Addr × List Int)} (R : SetB0 P w h a L) : ObjOk P w H h a (SetBO P w a L) := by
  have ⟨es, ep, t, ⟨o, ho, r⟩, q⟩ := R
  refine ⟨R, ⟨o, ho⟩, fun h1 h2 p k => ?_⟩
  obtain ⟨es, ep, t, ⟨o, ho, r⟩, q⟩ := p
  exact ⟨es, ep, t, ⟨o, k o ho, r⟩, q⟩
section
variable {X : Cx}
def rSetB (K : PySem.W.Frag) (P : Program) (w : World) : List V → Hp → VK → Prop := fun xs H Q => ∃ (l : Addr) (ks : List (Addr × List Int)), xs = [V.ref l] ∧ (SqL K H l (ks.map fun p => V.ref p.1) ∨ SqT K H l (ks.map fun p => V.ref p.1)) ∧ (∀ p ∈ ks, SqT K H p.1 (p.2.map V.int)) ∧ ks.length < 4000 ∧
  ∀ a L, H a = none → (∀ p ∈ L, p ∈ ks) → (∀ p ∈ ks, p.2 ∈ L.map (·.2)) → L.length ≤ ks.length → Q (.ref a) (upd H a (SetBO P w a L))
theorem cr_setB (hc : X.calm = true) (hu : X.A.units + 64 < cLine) : CallR X (.type "set") (rSetB X.K X.prog X.w) := by
  intro pins s σ H xs us Q I r h
  obtain ⟨l, ks, rfl, hl, hk, hf, q⟩ := h
  rw [Vals.ref1 r]
  have hn : H s.heap.objs.size = none := I.hok.fresh (Nat.le_refl _)
  have fin : ∀ (h' : Heap) (tk : Nat) L es ep t, SetB X.prog X.w h' s.heap.objs.size L es ep t → Got ks ks.length L → (∀ b o, s.heap.get? b = some o → h'.get? b = some o) → ∃ x H', Inv X pins σ H' { s with heap := h', toks := tk } ∧ RelV x (.ref s.heap.objs.size) ∧ Q x H' := fun h' tk L es ep t R g k =>
    ⟨.ref s.heap.objs.size, upd H s.heap.objs.size (SetBO X.prog X.w s.heap.objs.size L), I.laid (t' := tk) k (Nat.le_refl _) (setBO_new R.b0), rfl, q _ L hn (fun p hp => List.mem_of_mem_take (g.sub p hp)) (fun p hp => g.all p (by rw [List.take_length]; exact hp)) g.len⟩
  rcases hl with hl | hl
  · obtain ⟨its, rv, pl, hz⟩ := I.list hl
    exact call_set_list (P := X.prog) (w := X.w) ks (I.ok.hd hc) pl.isList (by simpa using refs_of_vals rv) (fun p hp => I.isT (hk p hp)) hf (by omega) fin
  · obtain ⟨its, rv, ⟨ol, o1, o2, n, o3⟩, hz⟩ := I.tuple hl
    exact call_set_tuple (P := X.prog) (w := X.w) ks (I.ok.hd hc) ⟨ol, o1, o2, n, o3⟩ (by simpa using refs_of_vals rv) (fun p hp => I.isT (hk p hp)) hf (by omega) fin
def rSortedB (K : PySem.W.Frag) (P : Program) (w : World) : List V → Hp → VK → Prop := fun vs H Q => ∃ (a : Addr) (L : List (Addr × List Int)), vs = [V.ref a] ∧ H a = some (SetBO P w a L) ∧ (∀ p ∈ L, SqT K H p.1 (p.2.map V.int)) ∧ L.length < 4000 ∧
  ∀ (L' : List (Addr × List Int)) (p : Addr), L'.Perm L → (L'.map (·.2)).Nodup → L'.Pairwise (fun q r => lexL r.2 q.2 = false) → H p = none → Q (.ref p) (upd H p (.lst (L'.map fun q => V.ref q.1)))
theorem cr_sortedB (hc : X.calm = true) (hu : X.A.units + 64 < cLine) : CallR X (.builtin "sorted") (rSortedB X.K X.prog X.w) := by
  intro pins s σ H vs us Q I r h
  obtain ⟨a, L, rfl, ha, hk, hf, q⟩ := h
  obtain ⟨es, ep, t, r1, r2, r3, r4, r5, r6, r7⟩ : SetB0 X.prog X.w s.heap a L := (I.hok a _ ha).1
  rw [Vals.ref1 r]
  refine sorted_B (P := X.prog) (w := X.w) ⟨r1, r2, r3, r4, fun p hp => I.isT (hk p hp), r5, r6, r7⟩ (I.ok.hd hc) hf hu fun s' p out c L' k g o hp hg hout pm pw => ?_
  have hlen : (L'.map fun q => V.ref q.1).length ≤ sizeLine := by rw [List.length_map, sizeLine_eq, pm.length_eq]; omega
  have hn : H p = none := I.hok.fresh hp
  have hv : Vals (L'.map fun q => V.ref q.1) out.toList := by rw [hout]; exact vals_of_refs L'
  have J : Inv X pins σ (upd H p (.lst (L'.map fun q => V.ref q.1))) { s with heap := s'.heap, gens := s'.gens, drawn := s'.drawn, toks := s'.toks } :=
    I.call (ch := []) (Un.laid k hp hn) (I.hok.laid k hp ⟨hlen, out.toList, c, hv, hg⟩) (by rw [g]; exact I.bare) (fun _ z => nomatch z)
  have e : s' = { s with heap := s'.heap, gens := s'.gens, drawn := s'.drawn, toks := s'.toks } := by
    cases s'
    cases s
    cases o
    rfl
  rw [e]
  exact ⟨.ref p, _, J, rfl, q L' p pm ((pm.map (·.2)).nodup_iff.mpr r4) pw hn⟩
end
section
variable {P : Program} {w : World} {K : PySem.W.Frag} {mg : Str → Option Value} {base : Heap} {X : Cx} {N : List Str} {sc fs : Scope} {k : Nat}
/-- sorted(set(x)) -/
def qSortB (m : Bool) (te : TD) : TD := fun ε st Q => te ε st fun x s1 => match sitems s1 x with
  | some l => (match tints l with
    | some ts => ts.length < 4000 ∧ newL m ((sortU ts).map fun a => .d (.tuple (a.map .int))) s1 Q
    | none => False)
  | none => False
theorem de_sortB {e : Expr} {te : TD} {p p2 pos pos2 : Pos} (m : Bool) (c : Cok P w K mg base X N sc fs k) (hg : glB sc "sorted" = true) (hm : mg "sorted" = none) (hg2 : glB sc "set" = true) (hm2 : mg "set" = none) (ha : DE X e te)
    (he : starEach [e] X.env = (false, eval e X.env) :: starEach [] X.env := by rfl) : DE X (.Call (.Name "sorted" p) [.Call (.Name "set" p2) [e] [] pos2] [] pos) (qSortB m te) := by
  obtain ⟨t1, p1, a1⟩ := ha
  have g := gl_of c hg
  have g2 := gl_of c hg2
  have hc := c.calm
  refine ⟨⟨_, pe_callB (cr_sortedB hc c.hu65) g.1 (by rw [c.hmg]; exact hm) bb_sorted (pa_cons (pe_callTy (cr_setB hc c.hu65) g2.1 (by rw [c.hmg]; exact hm2) bt_set (pa_cons p1 pa_nil he) g2.2.1 g2.2.2 he rfl) pa_nil rfl) g.2.1 g.2.2 rfl rfl, fun F σ H ε st Qd Q R E h kk => ?_⟩⟩
  refine a1.go (W := fun x H1 => _) R E h kk fun F1 H1 s1 v y R1 E1 rv q kk => ?_
  split at q
  rotate_left
  · exact q.elim
  rename_i l el
  split at q
  rotate_left
  · exact q.elim
  rename_i ts et
  obtain ⟨hf, q⟩ := q
  obtain ⟨pa, vs, rfl, hq, s⟩ := sitems_rv R1 rv el
  obtain ⟨ks, rfl, rfl, hF⟩ := tints_rvs s et
  rw [List.length_map] at hf
  have hk : ∀ z ∈ ks, SqT X.K H1 z.1 (z.2.map V.int) := fun z hz => SqT.of (R1.sub _ _ (hF z hz)).1
  refine ⟨pa, ks, rfl, hq, hk, hf, fun a L ha h1 h2 hlen => ?_⟩
  obtain ⟨R2, S2⟩ := R1.hide (o := SetBO X.prog X.w a L) ha
  refine ⟨a, L, rfl, upd_same, fun z hz => SqT.of (R2.sub _ _ (hF z (h1 z hz))).1, by omega, fun L' pp pm nd pw hp => ?_⟩
  have hL : ∀ z ∈ L', z ∈ ks := fun z hz => h1 z (pm.mem_iff.mp hz)
  have e : sortU (ks.map (·.2)) = L'.map (·.2) := by
    refine sortU_eq ?_ fun x => ?_
    · refine List.pairwise_map.mpr ?_
      have nd' : L'.Pairwise fun q r => q.2 ≠ r.2 := List.pairwise_map.mp nd
      refine List.Pairwise.imp (fun {y z} hyz => ?_) (List.Pairwise.and nd' pw)
      rcases lexL_tri y.2 z.2 with e | e | e
      · exact e
      · exact absurd e hyz.1
      · rw [hyz.2] at e; cases e
    · constructor
      · intro hx
        obtain ⟨z, hz, rfl⟩ := List.mem_map.mp hx
        obtain ⟨z', hz', e⟩ := List.mem_map.mp (h2 z hz)
        exact List.mem_map.mpr ⟨z', pm.mem_iff.mpr hz', e⟩
      · intro hx
        obtain ⟨z, hz, rfl⟩ := List.mem_map.mp hx
        exact List.mem_map.mpr ⟨z, hL z hz, rfl⟩
  rw [e, List.map_map] at q
  refine new_lst R2 (m := m) ?_ hp q fun F' b H' b' st' S3 R3 r3 q3 => kk F' b H' b' st' (S2.trans S3) R3 r3 q3
  have : ∀ L'' : List (Addr × List Int), (∀ z ∈ L'', z ∈ ks) → RVs X.K F1 (L''.map fun q => V.ref q.1) (L''.map ((fun a => DV.d (.tuple (a.map .int))) ∘ (·.2))) := by
    intro L''
    induction L'' with
    | nil => exact fun _ => .nil
    | cons z r ih => exact fun hz => .cons (.d (.tup (hF z (hz z List.mem_cons_self)) (rp_all z.2))) (ih fun y hy => hz y (List.mem_cons_of_mem _ hy))
  exact this L' hL
end
end BS
end
section
set_option Elab.async false
set_option linter.all false
set_option maxRecDepth 100000
set_option maxHeartbeats 4000000
namespace DL
open PySem PySem.Spec L2 PyProof.Rows
variable [tB : Tb] [gR : Gr]
section
variable {X : Cx}
abbrev leD : PyData → PyData → Bool := PySem.W.dataLe false id
def rSortD (K : PySem.W.Frag) : List V → Hp → VK → Prop := fun vs H Q => ∃ (a : Addr) (bs : List (V × PyData)), vs = [V.ref a] ∧ SqL K H a (bs.map (·.1)) ∧ (∀ p ∈ bs, Dp K H p.1 p.2) ∧ PySem.W.AllAlike (bs.map (·.2)) ∧ BS.SortX (bs.map (·.2)) ∧ bs.length ≤ 100000 ∧ (∀ p ∈ bs, p.2.depth ≤ 16) ∧
  ∀ p : Addr, H p = none → Q (.ref p) (upd H p (.lst ((bs.mergeSort fun x y => leD x.2 y.2).map (·.1))))
theorem each_of_vals {R : Value → V × PyData → Prop} : ∀ {bs : List (V × PyData)} {us : List Value}, Vals (bs.map (·.1)) us → (∀ p ∈ bs, ∀ u, RelV p.1 u → R u p) → PySem.W.EachIs R us bs
  | [], _, h, _ => by cases h; exact .nil
  | p :: bs, _, h, k => by
    cases h with
    | cons r1 r2 => exact .cons (k p List.mem_cons_self _ r1) (each_of_vals r2 fun q hq => k q (List.mem_cons_of_mem _ hq))
theorem vals_of_each : ∀ {bs : List (V × PyData)} {us : List Value}, PySem.W.EachIs (fun u p => RelV p.1 u) us bs → Vals (bs.map (·.1)) us
  | [], _, h => by cases h; exact .nil
  | p :: bs, _, h => by
    cases h with
    | cons r1 r2 => exact .cons r1 (vals_of_each r2)
theorem cr_sortD (hc : X.calm = true) (hu : X.A.units + 64 < cLine) : CallR X (.builtin "sorted") (rSortD X.K) := by
  intro pins s σ H vs us Q I r h
  obtain ⟨a, bs, rfl, hs, hd, hal, hk, hl, hdep, q⟩ := h
  obtain ⟨its, rv, hil, _⟩ := I.list hs
  rw [Vals.ref1 r]
  have hz : bs.length ≤ sizeLine := by rw [sizeLine_eq]; omega
  refine BS.sorted_X (enc := fun p : V × PyData => p.2) (R := fun u p => RelV p.1 u) hil.isList (each_of_vals rv fun p _ u r => r) (each_of_vals rv fun p hp u r => Dp.reads I p.2 p.1 u (hd p hp) r) hal hk hz (fun p hp => by have := hdep p hp; omega) fun out ho e => ?_
  obtain ⟨ep, he'⟩ := PyProof.Rows.sortedAll_at s.heap its out.toArray
  have e2 : (bs.mergeSort (PySem.W.dataLe false fun p : V × PyData => p.2)) = bs.mergeSort fun x y => leD x.2 y.2 := rfl
  rw [e2] at e
  have hlen : ((bs.mergeSort fun x y => leD x.2 y.2).map (·.1)).length ≤ sizeLine := by rw [List.length_map, List.length_mergeSort]; exact hz
  exact ⟨.ref _, upd H (s.heap.objs.size + 1) (.lst ((bs.mergeSort fun x y => leD x.2 y.2).map (·.1))), I.laid (t' := s.toks) (fun _ _ => PyProof.Rows.sortedAll_old) (Nat.le_succ _) ⟨hlen, out, ep, vals_of_each e, he'⟩, rfl, q _ (I.hok.fresh (Nat.le_succ _))⟩
end
section
variable {P : Program} {w : World} {K : PySem.W.Frag} {mg : Str → Option Value} {base : Heap} {X : Cx} {N : List Str} {sc fs : Scope} {k : Nat}
/-- sorted(x) of a list of data -/
def qSortD (m : Bool) (te : TD) : TD := fun ε st Q => te ε st fun x s1 => match (litems s1 x).bind datas with
  | some ds => PySem.W.AllAlike ds ∧ BS.SortX ds ∧ ds.length ≤ 100000 ∧ (∀ d ∈ ds, d.depth ≤ 16) ∧ newL m ((ds.mergeSort leD).map .d) s1 Q
  | none => False
theorem de_sortD {e : Expr} {te : TD} {p pos : Pos} (m : Bool) (c : Cok P w K mg base X N sc fs k) (hg : glB sc "sorted" = true) (hm : mg "sorted" = none) (ha : DE X e te)
    (he : starEach [e] X.env = (false, eval e X.env) :: starEach [] X.env := by rfl) : DE X (.Call (.Name "sorted" p) [e] [] pos) (qSortD m te) := by
  obtain ⟨t1, p1, a1⟩ := ha
  have g := gl_of c hg
  have hc := c.calm
  refine ⟨⟨_, pe_callB (cr_sortD hc c.hu65) g.1 (by rw [c.hmg]; exact hm) bb_sorted (pa_cons p1 pa_nil he) g.2.1 g.2.2 he rfl, fun F σ H ε st Qd Q R E h kk => ?_⟩⟩
  refine a1.go (W := fun x H1 => _) R E h kk fun F1 H1 s1 v y R1 E1 rv q kk => ?_
  split at q
  rotate_left
  · exact q.elim
  rename_i ds ed
  obtain ⟨l, el, ed⟩ := Option.bind_eq_some_iff.mp ed
  obtain ⟨hal, hk, hl, hdep, q⟩ := q
  obtain ⟨pa, vs, rfl, hq, s⟩ := litems_rv R1 rv el
  have ed2 := datas_eq ed
  subst ed2
  have hall := s.all
  have hlen : vs.length = ds.length := by rw [s.length, List.length_map]
  have e1 : (vs.zip ds).map (·.1) = vs := by rw [List.map_fst_zip (by omega)]
  have e2 : (vs.zip ds).map (·.2) = ds := by rw [List.map_snd_zip (by omega)]
  have hdp : ∀ (vs : List V) (ds : List PyData), RpAll X.K F1 vs ds → ∀ z ∈ vs.zip ds, Rp X.K F1 z.1 z.2 := by
    intro vs
    induction vs with
    | nil => intro ds _ z hz; simp at hz
    | cons v vs ih =>
      intro ds h z hz
      cases h with
      | cons h1 h2 =>
        rcases List.mem_cons.mp (by simpa using hz) with rfl | hz
        · exact h1
        · exact ih _ h2 z hz
  have hz := hdp vs ds hall
  refine ⟨pa, vs.zip ds, rfl, by rw [e1]; exact hq, fun z hzm => (hz z hzm).dp (fun a o h => (R1.sub a o h).1), by rw [e2]; exact hal, by rw [e2]; exact hk, by rw [List.length_zip]; omega, fun z hzm => hdep _ (by rw [← e2]; exact List.mem_map.mpr ⟨z, hzm, rfl⟩), fun pp hp => ?_⟩
  have e3 : ((vs.zip ds).mergeSort fun x y => leD x.2 y.2).map (·.2) = ds.mergeSort leD := by
    rw [List.map_mergeSort (s := leD) (fun a _ b _ => rfl), e2]
  rw [← e3, List.map_map] at q
  refine new_lst R1 (m := m) ?_ hp q kk
  have : ∀ L : List (V × PyData), (∀ z ∈ L, z ∈ vs.zip ds) → RVs X.K F1 (L.map (·.1)) (L.map (DV.d ∘ (·.2))) := by
    intro L
    induction L with
    | nil => exact fun _ => .nil
    | cons z r ih => exact fun hzz => .cons (.d (hz z (hzz z List.mem_cons_self))) (ih fun y hy => hzz y (List.mem_cons_of_mem _ hy))
  exact this _ fun z hzz => (List.mergeSort_perm _ _).mem_iff.mp hzz
end
end DL
end
section
set_option Elab.async false
set_option linter.all false
set_option maxRecDepth 100000
set_option maxHeartbeats 4000000
namespace DL
open PySem PySem.Spec L2 PyProof.Rows
variable [tB : Tb] [gR : Gr]
section
variable {X : Cx}
def rInX (K : PySem.W.Frag) (neg : Bool) : R2 := fun x y H Q => ∃ d ds, Dp K H x d ∧ (Dp K H y (.list ds) ∨ Dp K H y (.tuple ds)) ∧ d.canLay0 = true ∧ d.depth ≤ 32 ∧ PyData.canLayAll0 ds = true ∧ Q (.bl (if neg then !(ds.any fun z => PyData.eqv z d) else ds.any fun z => PyData.eqv z d)) H
theorem op_inX (hu : X.A.units + 64 < cLine) : OpR X (compareOp .In) (rInX X.K false) := by
  intro pins s σ H x y v u Q I rx ry h
  obtain ⟨d, ds, hd, he, sd, dd, se, q⟩ := h
  obtain ⟨as, r1⟩ := Dp.reads I d x v hd rx
  have room : X.A.units + 1 + min (PyData.depthAll ds) d.depth < cLine := by
    have := Nat.min_le_right (PyData.depthAll ds) d.depth
    omega
  rcases he with he | he
  · obtain ⟨bs, r2⟩ := Dp.reads I (.list ds) y u he ry
    exact SeqAt.in_list_reads r2 r1 se sd room ⟨.bl _, H, I, rfl, q⟩
  · obtain ⟨bs, r2⟩ := Dp.reads I (.tuple ds) y u he ry
    exact SeqAt.in_tuple_reads r2 r1 se sd room ⟨.bl _, H, I, rfl, q⟩
theorem op_notInX (hu : X.A.units + 64 < cLine) : OpR X (compareOp .NotIn) (rInX X.K true) := by
  intro pins s σ H x y v u Q I rx ry h
  obtain ⟨d, ds, hd, he, sd, dd, se, q⟩ := h
  obtain ⟨as, r1⟩ := Dp.reads I d x v hd rx
  have room : X.A.units + 1 + min (PyData.depthAll ds) d.depth < cLine := by
    have := Nat.min_le_right (PyData.depthAll ds) d.depth
    omega
  rcases he with he | he
  · obtain ⟨bs, r2⟩ := Dp.reads I (.list ds) y u he ry
    exact SeqAt.notIn_list_reads r2 r1 se sd room ⟨.bl _, H, I, rfl, q⟩
  · obtain ⟨bs, r2⟩ := Dp.reads I (.tuple ds) y u he ry
    exact SeqAt.notIn_tuple_reads r2 r1 se sd room ⟨.bl _, H, I, rfl, q⟩
def seqD : PyData → Option (List PyData)
  | .list ds => some ds
  | .tuple ds => some ds
  | _ => none
def qIn (neg : Bool) : R2D := fun x y st Q => match fz st x, (fz st y).bind seqD with
  | some d, some ds => d.canLay0 = true ∧ d.depth ≤ 32 ∧ PyData.canLayAll0 ds = true ∧ Q (.d (.bool (if neg then !(ds.any fun z => PyData.eqv z d) else ds.any fun z => PyData.eqv z d))) st
  | _, _ => False
theorem s2_in {K : PySem.W.Frag} {neg : Bool} : S2 K (rInX K neg) (qIn neg) := fun F H st v w x y Qd Q R rv rw' h kk => by
  unfold qIn at h
  split at h
  rotate_left
  · exact h.elim
  rename_i d ds e1 e2
  obtain ⟨c, e3, e4⟩ := Option.bind_eq_some_iff.mp e2
  obtain ⟨h1, h2, h3, q⟩ := h
  have hc := fz_dp R rw' e3
  refine ⟨d, ds, fz_dp R rv e1, ?_, h1, h2, h3, kk.at R (.d (.bl _)) q⟩
  cases c with
  | list l => cases e4; exact .inl hc
  | tuple l => cases e4; exact .inr hc
  | _ => cases e4
theorem op_qIn (hu : X.A.units + 64 < cLine) : ∃ r', OpR X (compareOp .In) r' ∧ S2 X.K r' (qIn false) := ⟨_, op_inX hu, s2_in⟩
theorem op_qNotIn (hu : X.A.units + 64 < cLine) : ∃ r', OpR X (compareOp .NotIn) r' ∧ S2 X.K r' (qIn true) := ⟨_, op_notInX hu, s2_in⟩
end
theorem any_int (a : List Int) (i : Int) : ((a.map PyData.int).any fun z => PyData.eqv z (.int i)) = decide (i ∈ a) := by
  rw [Bool.eq_iff_iff, List.any_map, List.any_eq_true, decide_eq_true_eq]
  constructor
  · rintro ⟨j, hj, h⟩
    simp only [Function.comp, PyData.eqv] at h
    have : j = i := by simpa using h
    rw [← this]
    exact hj
  · intro h
    exact ⟨i, h, by simp [Function.comp, PyData.eqv]⟩
theorem lay_ints (a : List Int) : PyData.canLayAll0 (a.map PyData.int) = true := by
  induction a with
  | nil => simp [PyData.canLayAll0]
  | cons x a ih => simp [PyData.canLayAll0, PyData.canLay0, ih]
theorem qIn_IT (neg : Bool) (i : Int) (a : List Int) (st : Sto) (Q : DV → Sto → Prop) : qIn neg (.d (.int i)) (.d (.tuple (a.map .int))) st Q = Q (.d (.bool (if neg then !decide (i ∈ a) else decide (i ∈ a)))) st := by
  unfold qIn
  simp only [fz, Option.bind_some, seqD, any_int, lay_ints, PyData.canLay0, PyData.depth, Nat.zero_le, true_and]
theorem qIn_IL (neg : Bool) (i : Int) (a : List Int) (st : Sto) (Q : DV → Sto → Prop) : qIn neg (.d (.int i)) (.d (.list (a.map .int))) st Q = Q (.d (.bool (if neg then !decide (i ∈ a) else decide (i ∈ a)))) st := by
  unfold qIn
  simp only [fz, Option.bind_some, seqD, any_int, lay_ints, PyData.canLay0, PyData.depth, Nat.zero_le, true_and]
theorem eqvAll_ints : ∀ a b : List Int, PyData.eqvAll (a.map .int) (b.map .int) = decide (a = b)
  | [], [] => by simp [PyData.eqvAll]
  | [], y :: ys => by simp [PyData.eqvAll]
  | x :: xs, [] => by simp [PyData.eqvAll]
  | x :: xs, y :: ys => by
    rw [List.map_cons, List.map_cons, PyData.eqvAll, eqvAll_ints xs ys, PyData.eqv]
    by_cases h1 : x = y <;> by_cases h2 : xs = ys <;> simp [h1, h2]
theorem any_tup (l : List (List Int)) (a : List Int) : ((l.map fun b => PyData.tuple (b.map .int)).any fun z => PyData.eqv z (.tuple (a.map .int))) = decide (a ∈ l) := by
  rw [Bool.eq_iff_iff, List.any_map, List.any_eq_true, decide_eq_true_eq]
  constructor
  · rintro ⟨b, hb, h⟩
    simp only [Function.comp, PyData.eqv, eqvAll_ints, decide_eq_true_eq] at h
    rw [← h]
    exact hb
  · intro h
    exact ⟨a, h, by simp only [Function.comp, PyData.eqv, eqvAll_ints, decide_true]⟩
theorem lay_tups (l : List (List Int)) : PyData.canLayAll0 (l.map fun b => PyData.tuple (b.map .int)) = true := by
  induction l with
  | nil => simp [PyData.canLayAll0]
  | cons x a ih => simp only [List.map_cons, PyData.canLayAll0, PyData.canLay0, ih, lay_ints, Bool.and_self]
theorem dep_tup (a : List Int) : (PyData.tuple (a.map .int)).depth ≤ 32 := by
  have : PyData.depthAll (a.map .int) = 0 := dep_ints a
  simp only [PyData.depth, this]
  omega
theorem qIn_TT (neg : Bool) (a : List Int) (l : List (List Int)) (st : Sto) (Q : DV → Sto → Prop) : qIn neg (.d (.tuple (a.map .int))) (.d (.tuple (l.map fun b => .tuple (b.map .int)))) st Q = Q (.d (.bool (if neg then !decide (a ∈ l) else decide (a ∈ l)))) st := by
  have h := dep_tup a
  unfold qIn
  simp only [fz, Option.bind_some, seqD, any_tup, lay_tups, lay_ints, PyData.canLay0, h, true_and]
theorem qIn_TL (neg : Bool) (a : List Int) (l : List (List Int)) (st : Sto) (Q : DV → Sto → Prop) : qIn neg (.d (.tuple (a.map .int))) (.d (.list (l.map fun b => .tuple (b.map .int)))) st Q = Q (.d (.bool (if neg then !decide (a ∈ l) else decide (a ∈ l)))) st := by
  have h := dep_tup a
  unfold qIn
  simp only [fz, Option.bind_some, seqD, any_tup, lay_tups, lay_ints, PyData.canLay0, h, true_and]
end DL
end
section
set_option Elab.async false
set_option linter.all false
set_option maxRecDepth 100000
set_option maxHeartbeats 2000000
namespace L2
open PySem PySem.Spec PyProof.Rows
end L2
namespace BS
open PySem PySem.Spec L2 PyProof.Rows DL
section
variable {X : Cx}
def keyInt : Key → Int
  | .inl i => i
  | .inr _ => 0
theorem keyInts_inl (ns : List Int) : (ns.map Sum.inl : List Key).map keyInt = ns := by
  induction ns with
  | nil => rfl
  | cons n ns ih => rw [List.map_cons, List.map_cons, ih]; rfl
def IntKeys {β : Type} (kvs : List (List Key × β)) : Prop := ∀ p ∈ kvs, ∃ ns : List Int, p.1 = ns.map Sum.inl
end
end BS
namespace DL
open PySem PySem.Spec L2 PyProof.Rows
variable [tB : Tb] [gR : Gr]
section
variable {P : Program} {w : World} {K : PySem.W.Frag} {mg : Str → Option Value} {base : Heap} {X : Cx} {N : List Str} {sc fs : Scope} {k : Nat}
def tupD (a : List Int) : DV := .d (.tuple (a.map .int))
def keyX (x : DV) : Option (List Key) := match titems x with | some ys => keyT ys | none => none
/-- {k: v}, k a tuple -/
def qDispT (tk tv : TD) : TD := fun ε st Q => tk ε st fun x s1 => tv ε s1 fun y s2 => match keyX x with
  | some q => ∀ p, s2 p = none → Q (.r p) (up s2 p (.dT [(q, y)]))
  | none => False
end
end DL
end
section
set_option Elab.async false
set_option linter.all false
set_option maxRecDepth 100000
set_option maxHeartbeats 2000000
namespace DL
open PySem PySem.Spec L2 PyProof.Rows
variable [tB : Tb] [gR : Gr]
section
variable {P : Program} {w : World} {K : PySem.W.Frag} {mg : Str → Option Value} {base : Heap} {X : Cx} {N : List Str} {sc fs : Scope} {k : Nat}
def isDM : Option MO → Bool
  | some (.dK _) => true
  | some (.dT _) => true
  | some (.lk _ _ _) => true
  | _ => false
/-- d.get(k, x) -/
def qGet (td ty tx : TD) : TD := fun ε st Q => td ε st fun x s1 => match x with
  | .r a => isDM (s1 a) = true ∧ ty ε s1 fun y s2 => tx ε s2 fun z s3 => match dlook (s3 a) y with
    | some o => Q (o.getD z) s3
    | none => False
  | _ => False
end
end DL
end
section
set_option Elab.async false
set_option linter.all false
set_option maxRecDepth 100000
set_option maxHeartbeats 2000000
namespace L2
open PySem PySem.Spec PyProof.Rows
end L2
namespace DL
open PySem PySem.Spec L2 PyProof.Rows
variable [tB : Tb] [gR : Gr]
section
variable {P : Program} {w : World} {K : PySem.W.Frag} {mg : Str → Option Value} {base : Heap} {X : Cx} {N : List Str} {sc fs : Scope} {k : Nat}
/-- the pairs of a dict with tuples of ints as keys -/
def itemsD (kvs : List (List Key × DV)) : List DV := kvs.map fun p => mkT [tupD (p.1.map BS.keyInt), p.2]
/-- .. in e.items(), the dict locked -/
def qiItems (te : TD) : TDi := fun ε st Q => te ε st fun x s1 => match x with
  | .r a => (match s1 a with
    | some (.lk o ws kvs) => BS.IntKeys kvs ∧ Q (itemsD kvs) (fun s => s a = some (.lk o ws kvs)) s1
    | _ => False)
  | _ => False
/-- the expression runs while the dict in slot i is locked -/
def qLockE (i : Nat) (te : TD) : TD := fun ε st Q => match ε[i]? with
  | some (some (.r a)) => (match st a with
    | some (.dT kvs) => ∀ o ws, te ε (up st a (.lk o ws kvs)) fun v s1 => s1 a = some (.lk o ws kvs) ∧ Q v (up s1 a (.dT kvs))
    | _ => False)
  | _ => False
/-- the statement runs while the dict in slot i is locked -/
def qLockS (i : Nat) (t : TDs) : TDs := fun D ε st => match ε[i]? with
  | some (some (.r a)) => (match st a with
    | some (.dT kvs) => ∀ o ws, t { nx := fun ε1 s1 => s1 a = some (.lk o ws kvs) ∧ D.nx ε1 (up s1 a (.dT kvs)), rt := fun x s1 => s1 a = some (.lk o ws kvs) ∧ D.rt x (up s1 a (.dT kvs)), bk := fun ε1 s1 => s1 a = some (.lk o ws kvs) ∧ D.bk ε1 (up s1 a (.dT kvs)), ct := fun ε1 s1 => s1 a = some (.lk o ws kvs) ∧ D.ct ε1 (up s1 a (.dT kvs)) } ε (up st a (.lk o ws kvs))
    | _ => False)
  | _ => False
end
end DL
end
section
set_option Elab.async false
set_option linter.all false
set_option maxRecDepth 100000
set_option maxHeartbeats 2000000
namespace L2.DX
open PySem PySem.Spec PyProof.Rows
end L2.DX
namespace DL
open PySem PySem.Spec L2 PyProof.Rows
variable [tB : Tb] [gR : Gr]
section
variable {P : Program} {w : World} {K : PySem.W.Frag} {mg : Str → Option Value} {base : Heap} {X : Cx} {N : List Str} {sc fs : Scope} {k : Nat}
/-- list(e.items()) -/
def qListItems (m : Bool) (te : TD) : TD := fun ε st Q => te ε st fun x s1 => match x with
  | .r a => (match s1 a with
    | some (.dT kvs) => BS.IntKeys kvs ∧ newL m (itemsD kvs) s1 Q
    | _ => False)
  | _ => False
end
end DL
end
section
set_option Elab.async false
set_option linter.all false
set_option maxRecDepth 100000
set_option maxHeartbeats 2000000
namespace DL
open PySem PySem.Spec L2 PyProof.Rows
variable [tB : Tb] [gR : Gr]
section
variable {P : Program} {w : World} {K : PySem.W.Frag} {mg : Str → Option Value} {base : Heap} {X : Cx} {N : List Str} {sc fs : Scope} {k : Nat}
/-- xs.pop() -/
def qPop (to : TD) : TD := fun ε st Q => to ε st fun x s1 => match x with
  | .r a => ∃ xs y, s1 a = some (.lst xs) ∧ xs[xs.length - 1]? = some y ∧ Q y (up s1 a (.lst xs.dropLast))
  | _ => False
def keyPD : Key → DV
  | .inl i => .d (.int i)
  | .inr s => .d (.str s)
/-- list(d), scalar keys -/
def qListDK (m : Bool) : RLD := fun xs st Q => match xs with
  | [.r a] => (match st a with
    | some (.dK kvs) => newL m (kvs.map fun kv => keyPD kv.1) st Q
    | _ => False)
  | _ => False
end
end DL
end
section
set_option Elab.async false
set_option linter.all false
set_option maxRecDepth 100000
set_option maxHeartbeats 2000000
namespace DL
open PySem PySem.Spec L2 PyProof.Rows
variable [tB : Tb] [gR : Gr]
section
variable {P : Program} {w : World} {K : PySem.W.Frag} {mg : Str → Option Value} {base : Heap} {X : Cx} {N : List Str} {sc fs : Scope} {k : Nat}
def maxOr (d : Int) : List Int → Int
  | [] => d
  | n :: r => r.foldl max n
/-- max(e, default=d) -/
def qMaxDf (te td : TD) : TD := fun ε st Q => te ε st fun x s1 => td ε s1 fun y s2 => match y, litems s2 x with
  | .d (.int d), some l => (match dints l with
    | some ns => Q (.d (.int (maxOr d ns))) s2
    | none => False)
  | _, _ => False
end
end DL
end
section
set_option Elab.async false
set_option linter.all false
set_option maxRecDepth 100000
namespace RD
open PySem L2 DL
/-- _law_begun(script, k) slots: 0=script 1=k 2=cells 3=great 4=seed 5=cell -/
def rd_law_begun : TDs :=
  (qSeq (qAsg (qOp (qAdd false) (qSl false (qv 0) (qPart (qv 1)) qNoPart) (qSl false (qv 0) qNoPart (qPart (qv 1)))) (qgN 2))
  (qSeq (qAsg (qLc false (qiSeq (qv 2)) (qgN 5) (qTest (qOp qGe (qv 5) (qOp qPow (qc (.d (.int 10))) (qc (.d (.int 18)))))) (qv 5) [5]) (qgN 3))
  (qSeq (qAsg (qOp (qAdd false) (qc (.d (.int 71))) (qv 1)) (qgN 4))
  (qSeq (qFor (qiSeq (qv 2)) (qgN 5) (qAsg (qOp qMod (qCB qIntC (qCons (qOp (qAdd false) (qOp (qMul false) (qv 4) (qc (.d (.int 48271)))) (qv 5)) qNil)) (qc (.d (.int 2147483647)))) (qgN 4)))
  (qRet (qDisp (("left", (qIf (qTest (qOp qNe (qv 3) (qLst false qNil))) (qOp qIx (qv 3) (qc (.d (.int 0)))) (qc (.d (.int 0))))) :: (("seed", (qv 4)) :: (("cells", (qOp (qAdd false) (qv 2) (qLst false (qCons (qOp (qAdd false) (qOp (qMul false) (qc (.d (.int 53))) (qv 1)) (qc (.d (.int 11)))) qNil)))) :: (("spot", (qc (.d (.int 0)))) :: []))))))))))
/-- _law_draw(m, below) slots: 0=m 1=below 2=found 3=spot 4=cells 5=extra 6=cell 7=blend -/
def rd_law_draw : TDs :=
  (qSeq (qIfS (qTest (qOp qGt (qOp qDGet (qv 0) (qc (.d (.str "left")))) (qc (.d (.int 0))))) (qSeq (qAsg (qOp qMod (qCB qIntC (qCons (qOp qDGet (qv 0) (qc (.d (.str "left")))) qNil)) (qv 1)) (qgN 2))
      (qSeq (qDPut (qv 0) (qc (.d (.str "left"))) (qOp qFdiv (qOp qDGet (qv 0) (qc (.d (.str "left")))) (qv 1)))
      (qRet (qv 2)))) qNext)
  (qSeq (qAsg (qOp qDGet (qv 0) (qc (.d (.str "spot")))) (qgN 3))
  (qSeq (qDPut (qv 0) (qc (.d (.str "spot"))) (qOp (qAdd false) (qv 3) (qc (.d (.int 1)))))
  (qSeq (qPar 4 5 (qCons (qOp qDGet (qv 0) (qc (.d (.str "cells")))) (qCons (qOp (qAdd false) (qOp qDGet (qv 0) (qc (.d (.str "seed")))) (qOp (qMul false) (qOp (qMul false) (qc (.d (.int 40503))) (qv 3)) (qv 3))) qNil)))
  (qSeq (qAsg (qOp qIx (qv 4) (qOp qMod (qCB qIntC (qCons (qv 3) qNil)) (qCB qLen (qCons (qv 4) qNil)))) (qgN 6))
  (qSeq (qAsg (qOp qMod (qCB qIntC (qCons (qOp (qAdd false) (qOp (qMul false) (qv 6) (qOp (qAdd false) (qOp (qMul false) (qc (.d (.int 2))) (qv 3)) (qc (.d (.int 3))))) (qv 5)) qNil)) (qc (.d (.int 2147483647)))) (qgN 7))
  (qSeq (qAsg (qOp qMod (qCB qIntC (qCons (qOp (qAdd false) (qOp (qAdd false) (qOp (qMul false) (qv 7) (qv 7)) (qOp (qMul false) (qc (.d (.int 69621))) (qv 3))) (qOp qDGet (qv 0) (qc (.d (.str "seed"))))) qNil)) (qc (.d (.int 2147483629)))) (qgN 7))
  (qRet (qOp qMod (qOp qFdiv (qOp qMod (qCB qIntC (qCons (qOp (qAdd false) (qOp (qMul false) (qv 7) (qc (.d (.int 48271)))) (qv 3)) qNil)) (qc (.d (.int 2147483647)))) (qc (.d (.int 11)))) (qv 1))))))))))
/-- _law_of(m, some) slots: 0=m 1=some -/
def rd_law_of (sp_law_draw : SpD) : TDs :=
  (qRet (qOp qIx (qv 1) (qCall sp_law_draw (qCons (qv 0) (qCons (qCB qLen (qCons (qv 1) qNil)) qNil)))))
/-- divides(a, b) slots: 0=a 1=b 2=one 3=other -/
def rd_divides : TDs :=
  (qSeq (qFor (qiZip (qCons (qv 0) (qCons (qv 1) qNil))) (qgT 2 (qgCons (qgN 2) (qgCons (qgN 3) qgNil))) (qIfS (qTest (qOp qGt (qv 2) (qv 3))) (qRet (qc (.d (.bool false)))) qNext))
  (qRet (qc (.d (.bool true)))))
/-- support_of(monomial) slots: 0=monomial 1=variable 2=exponent -/
def rd_support_of : TDs :=
  (qRet (qCB qTupleC (qCons (qLc false (qiEnum (qCons (qv 0) qNil)) (qgT 2 (qgCons (qgN 1) (qgCons (qgN 2) qgNil))) (qTest (qOp qGt (qv 2) (qc (.d (.int 0))))) (qv 1) [1, 2]) qNil)))
/-- _law_divides(a, b) slots: 0=a 1=b 2=k -/
def rd_law_divides : TDs :=
  (qRet (qOp qEq (qLc false (qiRng1 (qCons (qCB qLen (qCons (qv 0) qNil)) qNil)) (qgN 2) (qTest (qOp qGt (qOp qIx (qv 0) (qv 2)) (qOp qIx (qv 1) (qv 2)))) (qv 2) [2]) (qLst false qNil)))
/-- _law_least(monomials) slots: 0=monomials 1=some 2=a 3=b -/
def rd_law_least (sp_law_divides : SpD) : TDs :=
  (qSeq (qAsg (BS.qSortB false (qv 0)) (qgN 1))
  (qRet (qCB qTupleC (qCons (qLc false (qiSeq (qv 1)) (qgN 2) (qTest (qOp qEq (qLc false (qiSeq (qv 1)) (qgN 3) (qAndT (qTest (qOp qNe (qv 3) (qv 2))) (qTest (qCall sp_law_divides (qCons (qv 3) (qCons (qv 2) qNil))))) (qv 3) [3]) (qLst false qNil))) (qv 2) [2]) qNil))))
/-- _law_monomial(m, n, top) slots: 0=m 1=n 2=top 3=k -/
def rd_law_monomial (sp_law_draw : SpD) : TDs :=
  (qRet (qCB qTupleC (qCons (qLc false (qiRng1 (qCons (qv 1) qNil)) (qgN 3) qYes (qIf (qTest (qOp qGt (qCall sp_law_draw (qCons (qv 0) (qCons (qc (.d (.int 3))) qNil))) (qc (.d (.int 0))))) (qCall sp_law_draw (qCons (qv 0) (qCons (qOp (qAdd false) (qv 2) (qc (.d (.int 1)))) qNil))) (qc (.d (.int 0)))) [3]) qNil)))
/-- _law_ideal(m, n, count, top) slots: 0=m 1=n 2=count 3=top 4=some 5=k 6=a -/
def rd_law_ideal (sp_law_draw : SpD) (sp_law_monomial : SpD) (sp_law_least : SpD) : TDs :=
  (qSeq (qAsg (qLc false (qiRng1 (qCons (qCall sp_law_draw (qCons (qv 0) (qCons (qOp (qAdd false) (qv 2) (qc (.d (.int 1)))) qNil))) qNil)) (qgN 5) qYes (qCall sp_law_monomial (qCons (qv 0) (qCons (qv 1) (qCons (qv 3) qNil)))) [5]) (qgN 4))
  (qRet (qTup (qCons (qv 1) (qCons (qCall sp_law_least (qCons (qLc false (qiSeq (qv 4)) (qgN 6) (qTest (qOp qGt (qCB qSum (qCons (qv 6) qNil)) (qc (.d (.int 0))))) (qv 6) [6]) qNil)) qNil)))))
/-- least_ones(monomials) slots: 0=monomials 1=found 2=monomial 3=other -/
def rd_least_ones (sp_divides : SpD) : TDs :=
  (qSeq (qAsg (qLst true qNil) (qgN 1))
  (qSeq (qFor (qiSeq (BS.qSortB false (qv 0))) (qgN 2) (qIfS (qNotT (qTest (qCB qAny (qCons (qLc false (qiSeq (qv 1)) (qgN 3) qYes (qCall sp_divides (qCons (qv 3) (qCons (qv 2) qNil))) [3]) qNil)))) (qDrop (qAppend (qv 1) (qv 2))) qNext))
  (qRet (qv 1))))
/-- _law_in(generators, b) slots: 0=generators 1=b 2=a -/
def rd_law_in (sp_law_divides : SpD) : TDs :=
  (qRet (qOp qNe (qLc false (qiSeq (qv 0)) (qgN 2) (qTest (qCall sp_law_divides (qCons (qv 2) (qCons (qv 1) qNil)))) (qv 2) [2]) (qLst false qNil)))
/-- is_integer(value) slots: 0=value -/
def rd_is_integer : TDs :=
  (qRet (qAndV (qIsi "int" (qv 0)) (qNotV (qIsi "bool" (qv 0)))))
/-- has_form(value) slots: 0=value -/
def rd_has_form (sp_is_integer : SpD) : TDs :=
  (qSeq (qIfS (qOrT (qNotT (qTest (qIsi "tuple" (qv 0)))) (qOrT (qTest (qOp qNe (qCB qLen (qCons (qv 0) qNil)) (qc (.d (.int 2))))) (qNotT (qTest (qIsi "tuple" (qOp qIx (qv 0) (qc (.d (.int 1))))))))) (qRet (qc (.d (.bool false)))) qNext)
  (qRet (qAndV (qCall sp_is_integer (qCons (qOp qIx (qv 0) (qc (.d (.int 0)))) qNil)) (qChain qLe qLe (qc (.d (.int 1))) (qOp qIx (qv 0) (qc (.d (.int 0)))) (qc (.d (.int 12)))))))
/-- is_monomial(value, n) slots: 0=value 1=n 2=exponent -/
def rd_is_monomial (sp_is_integer : SpD) : TDs :=
  (qSeq (qIfS (qOrT (qNotT (qTest (qIsi "tuple" (qv 0)))) (qTest (qOp qNe (qCB qLen (qCons (qv 0) qNil)) (qv 1)))) (qRet (qc (.d (.bool false)))) qNext)
  (qSeq (qFor (qiSeq (qv 0)) (qgN 2) (qIfS (qOrT (qNotT (qTest (qCall sp_is_integer (qCons (qv 2) qNil)))) (qNotT (qTest (qChain qLe qLe (qc (.d (.int 0))) (qv 2) (qc (.d (.int 60))))))) (qRet (qc (.d (.bool false)))) qNext))
  (qRet (qc (.d (.bool true))))))
/-- breach(value) slots: 0=value 1=n 2=generators 3=place 4=entry 5=other -/
def rd_breach (sp_has_form : SpD) (sp_is_monomial : SpD) (sp_divides : SpD) : TDs :=
  (qSeq (qIfS (qNotT (qTest (qCall sp_has_form (qCons (qv 0) qNil)))) (qRet (qTup (qCons (qc (.d (.str "form"))) (qCons (qUn qNeg (qc (.d (.int 1)))) qNil)))) qNext)
  (qSeq (qAsg (qv 0) (qgT 2 (qgCons (qgN 1) (qgCons (qgN 2) qgNil))))
  (qSeq (qFor (qiEnum (qCons (qv 2) qNil)) (qgT 2 (qgCons (qgN 3) (qgCons (qgN 4) qgNil))) (qIfS (qNotT (qTest (qCall sp_is_monomial (qCons (qv 4) (qCons (qv 1) qNil))))) (qRet (qTup (qCons (qc (.d (.str "monomial"))) (qCons (qv 3) qNil)))) qNext))
  (qSeq (qFor (qiRng2 (qCons (qc (.d (.int 1))) (qCons (qCB qLen (qCons (qv 2) qNil)) qNil))) (qgN 3) (qIfS (qNotT (qTest (qOp qLt (qOp qIx (qv 2) (qOp qSub (qv 3) (qc (.d (.int 1))))) (qOp qIx (qv 2) (qv 3))))) (qRet (qTup (qCons (qc (.d (.str "sequence"))) (qCons (qv 3) qNil)))) qNext))
  (qSeq (qFor (qiEnum (qCons (qv 2) qNil)) (qgT 2 (qgCons (qgN 3) (qgCons (qgN 4) qgNil))) (qFor (qiSeq (qSl false (qv 2) qNoPart (qPart (qv 3)))) (qgN 5) (qIfS (qTest (qCall sp_divides (qCons (qv 5) (qCons (qv 4) qNil)))) (qRet (qTup (qCons (qc (.d (.str "least"))) (qCons (qv 3) qNil)))) qNext)))
  (qSeq (qIfS (qTest (qOp qGt (qCB qLen (qCons (qv 2) qNil)) (qc (.d (.int 60))))) (qRet (qTup (qCons (qc (.d (.str "many"))) (qCons (qc (.d (.int 60))) qNil)))) qNext)
  (qRet (qc (.d .none)))))))))
/-- check_ideal(value) slots: 0=value 1=found -/
def rd_check_ideal (sp_breach : SpD) : TDs :=
  (qSeq (qAsg (qCall sp_breach (qCons (qv 0) qNil)) (qgN 1))
  (qSeq (qIfS (qTest (qOp qNotN (qv 1) (qc (.d .none)))) qNever qNext)
  (qRet (qv 0))))
/-- _law_subsets(some) slots: 0=some 1=found 2=one 3=a -/
def rd_law_subsets : TDs :=
  (qSeq (qAsg (qLst true (qCons (qTup qNil) qNil)) (qgN 1))
  (qSeq (qFor (qiSeq (qv 0)) (qgN 2) (qDrop (qExtend (qv 1) (qLc false (qiSeq (qv 1)) (qgN 3) qYes (qOp (qAdd false) (qv 3) (qTup (qCons (qv 2) qNil))) [3]))))
  (qRet (qv 1))))
end RD
end
section
set_option Elab.async false
set_option linter.all false
set_option maxRecDepth 100000
set_option maxHeartbeats 1000000
namespace UC
open PySem L2 DL
def Sh (n : Nat) (d : PyData) : Prop := d.canLay0 = true ∧ d.depth ≤ n
theorem Sh.shaped {d : PyData} (h : Sh 64 d) : SeqAt.shaped d = true := by
  unfold SeqAt.shaped
  rw [h.1, decide_eq_true h.2]
  rfl
theorem Sh.mono {n m : Nat} {d : PyData} (h : Sh n d) (hm : n ≤ m) : Sh m d := ⟨h.1, Nat.le_trans h.2 hm⟩
theorem sh_int {n : Nat} {i : Int} : Sh n (.int i) := ⟨by simp [PyData.canLay0], by simp [PyData.depth]⟩
theorem sh_bool {n : Nat} {b : Bool} : Sh n (.bool b) := ⟨by simp [PyData.canLay0], by simp [PyData.depth]⟩
theorem canAll : ∀ {l : List PyData}, (∀ x ∈ l, x.canLay0 = true) → PyData.canLayAll0 l = true
  | [], _ => by simp [PyData.canLayAll0]
  | x :: r, h => by
    have h1 := h x List.mem_cons_self
    have h2 := canAll (l := r) fun y hy => h y (List.mem_cons_of_mem _ hy)
    simp [PyData.canLayAll0, h1, h2]
theorem depAll {n : Nat} : ∀ {l : List PyData}, (∀ x ∈ l, x.depth ≤ n) → PyData.depthAll l ≤ n
  | [], _ => by simp [PyData.depthAll]
  | x :: r, h => by
    have h1 := h x List.mem_cons_self
    have h2 := depAll (l := r) fun y hy => h y (List.mem_cons_of_mem _ hy)
    simp only [PyData.depthAll]
    omega
theorem sh_list {n : Nat} {l : List PyData} (h : ∀ x ∈ l, Sh n x) : Sh (n + 1) (.list l) := by
  have h1 := canAll fun x hx => (h x hx).1
  have h2 := depAll fun x hx => (h x hx).2
  exact ⟨by simp [PyData.canLay0, h1], by simp only [PyData.depth]; omega⟩
theorem sh_tuple {n : Nat} {l : List PyData} (h : ∀ x ∈ l, Sh n x) : Sh (n + 1) (.tuple l) := by
  have h1 := canAll fun x hx => (h x hx).1
  have h2 := depAll fun x hx => (h x hx).2
  exact ⟨by simp [PyData.canLay0, h1], by simp only [PyData.depth]; omega⟩
theorem forall_map {α : Type} {f : α → PyData} {l : List α} {p : PyData → Prop} (h : ∀ x ∈ l, p (f x)) : ∀ y ∈ l.map f, p y := fun y hy => by
  obtain ⟨x, hx, rfl⟩ := List.mem_map.mp hy
  exact h x hx
/-- a monomial, a tuple of monomials, a list of them -/
abbrev TI (a : List Int) : PyData := .tuple (a.map .int)
abbrev LI (a : List Int) : PyData := .list (a.map .int)
abbrev TT (l : List (List Int)) : PyData := .tuple (l.map TI)
abbrev LT (l : List (List Int)) : PyData := .list (l.map TI)
theorem sh_TI {n : Nat} {a : List Int} : Sh (n + 1) (TI a) := sh_tuple (forall_map fun _ _ => sh_int)
theorem sh_LI {n : Nat} {a : List Int} : Sh (n + 1) (LI a) := sh_list (forall_map fun _ _ => sh_int)
theorem sh_TT {n : Nat} {l : List (List Int)} : Sh (n + 2) (TT l) := sh_tuple (forall_map fun _ _ => sh_TI)
theorem sh_LT {n : Nat} {l : List (List Int)} : Sh (n + 2) (LT l) := sh_list (forall_map fun _ _ => sh_TI)
@[simp] theorem shaped_TI {a : List Int} : SeqAt.shaped (TI a) = true := (sh_TI (n := 63)).shaped
@[simp] theorem shaped_LI {a : List Int} : SeqAt.shaped (LI a) = true := (sh_LI (n := 63)).shaped
@[simp] theorem shaped_TT {a : List (List Int)} : SeqAt.shaped (TT a) = true := (sh_TT (n := 62)).shaped
@[simp] theorem shaped_LT {a : List (List Int)} : SeqAt.shaped (LT a) = true := (sh_LT (n := 62)).shaped
@[simp] theorem shaped_int {i : Int} : SeqAt.shaped (.int i) = true := (sh_int (n := 64)).shaped
@[simp] theorem shaped_bool {i : Bool} : SeqAt.shaped (.bool i) = true := (sh_bool (n := 64)).shaped
@[simp] theorem shaped_nilL : SeqAt.shaped (.list []) = true := by decide +kernel
@[simp] theorem shaped_nilT : SeqAt.shaped (.tuple []) = true := by decide +kernel
/-- a kind of data whose equality is that of what it tells -/
def EqK {α : Type} [DecidableEq α] (f : α → PyData) : Prop := ∀ x y, PyData.eqv (f x) (f y) = decide (x = y)
theorem eqk_int : EqK PyData.int := fun x y => by
  rw [PyData.eqv]
  by_cases h : x = y <;> simp [h]
theorem eqk_bool : EqK PyData.bool := fun x y => by
  rw [PyData.eqv]
  cases x <;> cases y <;> rfl
theorem eqvAll_map {α : Type} [DecidableEq α] {f : α → PyData} (h : EqK f) : ∀ xs ys : List α, PyData.eqvAll (xs.map f) (ys.map f) = decide (xs = ys)
  | [], [] => by simp [PyData.eqvAll]
  | [], y :: ys => by simp [PyData.eqvAll]
  | x :: xs, [] => by simp [PyData.eqvAll]
  | x :: xs, y :: ys => by
    rw [List.map_cons, List.map_cons, PyData.eqvAll, h x y, eqvAll_map h xs ys]
    by_cases h1 : x = y <;> by_cases h2 : xs = ys <;> simp [h1, h2]
theorem eqk_tuple {α : Type} [DecidableEq α] {f : α → PyData} (h : EqK f) : EqK fun l : List α => PyData.tuple (l.map f) := fun xs ys => by
  rw [PyData.eqv, eqvAll_map h]
theorem eqk_list {α : Type} [DecidableEq α] {f : α → PyData} (h : EqK f) : EqK fun l : List α => PyData.list (l.map f) := fun xs ys => by
  rw [PyData.eqv, eqvAll_map h]
@[simp] theorem eqv_int (x y : Int) : PyData.eqv (.int x) (.int y) = decide (x = y) := eqk_int x y
@[simp] theorem eqv_bool (x y : Bool) : PyData.eqv (.bool x) (.bool y) = decide (x = y) := eqk_bool x y
@[simp] theorem eqv_TI (x y : List Int) : PyData.eqv (TI x) (TI y) = decide (x = y) := eqk_tuple eqk_int x y
@[simp] theorem eqv_LI (x y : List Int) : PyData.eqv (LI x) (LI y) = decide (x = y) := eqk_list eqk_int x y
@[simp] theorem eqv_TT (x y : List (List Int)) : PyData.eqv (TT x) (TT y) = decide (x = y) := eqk_tuple (eqk_tuple eqk_int) x y
@[simp] theorem eqv_LT (x y : List (List Int)) : PyData.eqv (LT x) (LT y) = decide (x = y) := eqk_list (eqk_tuple eqk_int) x y
@[simp] theorem eqv_nilL {α : Type} (f : α → PyData) (x : List α) : PyData.eqv (.list (x.map f)) (.list []) = decide (x = []) := by
  cases x <;> simp [PyData.eqv, PyData.eqvAll]
@[simp] theorem eqv_nilT {α : Type} (f : α → PyData) (x : List α) : PyData.eqv (.tuple (x.map f)) (.tuple []) = decide (x = []) := by
  cases x <;> simp [PyData.eqv, PyData.eqvAll]
@[simp] theorem mkT_map (l : List PyData) : mkT (l.map .d) = .d (.tuple l) := by
  unfold mkT
  rw [datas_map]
@[simp] theorem mkT_2 (a b : PyData) : mkT [.d a, .d b] = .d (.tuple [a, b]) := rfl
@[simp] theorem mkT_3 (a b c : PyData) : mkT [.d a, .d b, .d c] = .d (.tuple [a, b, c]) := rfl
@[simp] theorem mkT_0 : mkT [] = .d (.tuple []) := rfl
@[simp] theorem mkT_1 (a : PyData) : mkT [.d a] = .d (.tuple [a]) := rfl
theorem sizeL : sizeLine = 16777216 := rfl
theorem fmod_range {i j : Int} (h : 0 < j) : 0 ≤ i.fmod j ∧ i.fmod j < j := by
  rw [Int.fmod_eq_emod_of_nonneg i (by omega)]
  exact ⟨Int.emod_nonneg _ (by omega), Int.emod_lt_of_pos _ h⟩
theorem cmul_l {i j : Int} (h1 : -(2 ^ 64) < i) (h2 : i < 2 ^ 64) : CMulA i j := .inl (.inl ⟨h1, h2⟩)
theorem cmul_r {i j : Int} (h1 : -(2 ^ 64) < j) (h2 : j < 2 ^ 64) : CMulA i j := .inl (.inr ⟨h1, h2⟩)
theorem cutD_len {α : Type} (xs : List α) (lo hi : Option Int) : (cutD xs lo hi).length ≤ xs.length := by
  unfold cutD
  rw [List.length_take, List.length_drop]
  omega
theorem dints_map2 (l : List Int) : dints ((l.map PyData.int).map DV.d) = some l := by
  rw [List.map_map]
  exact dints_map l
theorem dbools_map2 (l : List Bool) : dbools ((l.map PyData.bool).map DV.d) = some l := by
  rw [List.map_map]
  exact dbools_map l
theorem atI_map2 {α : Type} {f : α → PyData} {l : List α} {j : Nat} (h : j < l.length) : atI (List.map DV.d (List.map f l)) (j : Int) = some (.d (f l[j])) := atI_nat (by rw [List.getElem?_map, List.getElem?_map, List.getElem?_eq_getElem h]; rfl)
theorem comp_mapT {α : Type} (h : α → DV) (f : α → DV) {inv : Sto → Prop} {g : TDg} {te : TD} {ε : DL.Env} {Kc : List DV → Sto → Prop} {st : Sto} (hi : inv st) : ∀ (l : List α) (acc : List DV),
    (∀ p ∈ l, ∀ Q : DV → Sto → Prop, Q (f p) st → g (h p) ε st fun ε1 s1 => te ε1 s1 Q) → Kc (acc ++ l.map f) st → qComp inv g qYes te ε Kc (l.map h) acc st
  | [], acc, _, k => ⟨hi, by rw [List.map_nil, List.append_nil] at k; exact k⟩
  | x :: xs, acc, hx, k => by
    refine ⟨hi, ?_⟩
    refine hx x List.mem_cons_self (fun y s3 => qComp inv g qYes te ε Kc (xs.map h) (acc ++ [y]) s3) ?_
    exact comp_mapT h f hi xs (acc ++ [f x]) (fun y hy => hx y (List.mem_cons_of_mem _ hy)) (by rw [List.append_assoc]; exact k)
theorem comp_fmT {α : Type} (h : α → DV) (p : α → Bool) (f : α → DV) {inv : Sto → Prop} {g : TDg} {tt : TDt} {te : TD} {ε : DL.Env} {Kc : List DV → Sto → Prop} {st : Sto} (hi : inv st) : ∀ (l : List α) (acc : List DV),
    (∀ x ∈ l, ∀ (Q1 : DV → Sto → Prop) (Q2 : Sto → Prop), (if p x = true then Q1 (f x) st else Q2 st) → g (h x) ε st fun ε1 s1 => tt ε1 s1 fun b s2 => if b = true then te ε1 s2 Q1 else Q2 s2) → Kc (acc ++ (l.filter p).map f) st → qComp inv g tt te ε Kc (l.map h) acc st
  | [], acc, _, k => ⟨hi, by rw [List.filter_nil, List.map_nil, List.append_nil] at k; exact k⟩
  | x :: xs, acc, hx, k => by
    refine ⟨hi, ?_⟩
    refine hx x List.mem_cons_self (fun y s3 => qComp inv g tt te ε Kc (xs.map h) (acc ++ [y]) s3) (fun s2 => qComp inv g tt te ε Kc (xs.map h) acc s2) ?_
    cases e : p x with
    | true =>
      rw [if_pos rfl]
      refine comp_fmT h p f hi xs (acc ++ [f x]) (fun y hy => hx y (List.mem_cons_of_mem _ hy)) ?_
      rw [List.filter_cons, if_pos e, List.map_cons] at k
      rw [List.append_assoc]
      exact k
    | false =>
      rw [if_neg Bool.false_ne_true]
      refine comp_fmT h p f hi xs acc (fun y hy => hx y (List.mem_cons_of_mem _ hy)) ?_
      rw [List.filter_cons, if_neg (by rw [e]; exact Bool.false_ne_true)] at k
      exact k
/-- a for over typed items: i items gone -/
theorem for_byT {α : Type} (h : α → DV) {inv : Sto → Prop} {g : TDg} {tb : TDs} {D : EndsD} {l : List α} {ε : DL.Env} {st : Sto} (W : Nat → DL.Env → Sto → Prop) (h0 : W 0 ε st) (hi : ∀ i ε st, W i ε st → inv st)
    (hs : ∀ (i : Nat) (x : α) ε st, l[i]? = some x → W i ε st → ∀ L : DL.Env → Sto → Prop, (∀ ε' st', W (i + 1) ε' st' → L ε' st') → g (h x) ε st fun ε1 s1 => tb { D with nx := L, ct := L, bk := D.nx } ε1 s1) (hd : ∀ ε st, W l.length ε st → D.nx ε st) : qLoop inv g tb D (l.map h) ε st := by
  have : ∀ (r : List α) (i : Nat) ε st, l.drop i = r → i + r.length = l.length → W i ε st → qLoop inv g tb D (r.map h) ε st := by
    intro r
    induction r with
    | nil =>
      intro i ε st hdr hlen w
      have e : i = l.length := by simpa using hlen
      subst e
      exact ⟨hi _ _ _ w, hd _ _ w⟩
    | cons y r ih =>
      intro i ε st hdr hlen w
      have hx : l[i]? = some y := by
        have := congrArg (fun z => z[0]?) hdr
        simp only [List.getElem?_drop, List.getElem?_cons_zero, Nat.add_zero] at this
        exact this
      refine ⟨hi _ _ _ w, hs i y ε st hx w _ fun ε' st' w' => ?_⟩
      refine ih (i + 1) ε' st' ?_ (by simp only [List.length_cons] at hlen; omega) w'
      rw [← List.drop_drop, hdr]
      rfl
  exact this l 0 ε st rfl (by simp) h0
theorem fg_ret {Q : DV → Sto → Prop} {x : DV} {st : Sto} (h : Q x st) : Fg Q x st := ⟨st, Le.refl st, h⟩
theorem in_IT (neg : Bool) (i : Int) (a : List Int) (st : Sto) (Q : DV → Sto → Prop) : qIn neg (.d (.int i)) (.d (TI a)) st Q = Q (.d (.bool (if neg then !decide (i ∈ a) else decide (i ∈ a)))) st := qIn_IT neg i a st Q
theorem in_IL (neg : Bool) (i : Int) (a : List Int) (st : Sto) (Q : DV → Sto → Prop) : qIn neg (.d (.int i)) (.d (LI a)) st Q = Q (.d (.bool (if neg then !decide (i ∈ a) else decide (i ∈ a)))) st := qIn_IL neg i a st Q
theorem in_TT (neg : Bool) (a : List Int) (l : List (List Int)) (st : Sto) (Q : DV → Sto → Prop) : qIn neg (.d (TI a)) (.d (TT l)) st Q = Q (.d (.bool (if neg then !decide (a ∈ l) else decide (a ∈ l)))) st := qIn_TT neg a l st Q
theorem in_TL (neg : Bool) (a : List Int) (l : List (List Int)) (st : Sto) (Q : DV → Sto → Prop) : qIn neg (.d (TI a)) (.d (LT l)) st Q = Q (.d (.bool (if neg then !decide (a ∈ l) else decide (a ∈ l)))) st := qIn_TL neg a l st Q
theorem keyT_ints : ∀ a : List Int, keyT ((a.map PyData.int).map DV.d) = some (a.map Sum.inl)
  | [] => rfl
  | x :: a => by
    rw [List.map_cons, List.map_cons, keyT, keyT_ints a]
    rfl
theorem keyX_TI (a : List Int) : keyX (.d (TI a)) = some (a.map Sum.inl) := keyT_ints a
def tabD (l : List (List Int × DV)) : List (List Key × DV) := l.map fun p => (p.1.map Sum.inl, p.2)
theorem len_tab (l : List (List Int × DV)) : (tabD l).length = l.length := List.length_map ..
theorem inl_inj {a b : List Int} (h : (a.map Sum.inl : List Key) = b.map Sum.inl) : a = b := by
  have := congrArg (List.map BS.keyInt) h
  rw [BS.keyInts_inl, BS.keyInts_inl] at this
  exact this
theorem dec_inl (a b : List Int) : decide ((a.map Sum.inl : List Key) = b.map Sum.inl) = decide (a = b) := by
  rw [Bool.eq_iff_iff, decide_eq_true_eq, decide_eq_true_eq]
  exact ⟨inl_inj, fun h => by rw [h]⟩
def putT (l : List (List Int × DV)) (a : List Int) (v : DV) : List (List Int × DV) :=
  if (l.any fun p => decide (p.1 = a)) = true then l.map fun p => if p.1 = a then (p.1, v) else p else l ++ [(a, v)]
theorem put_tab (l : List (List Int × DV)) (a : List Int) (v : DV) : putD (tabD l) (a.map Sum.inl) v = tabD (putT l a v) := by
  unfold putD putT tabD
  rw [List.any_map]
  have e : ((fun kv : List Key × DV => decide (kv.1 = a.map Sum.inl)) ∘ fun p : List Int × DV => ((p.1.map Sum.inl : List Key), p.2)) = fun p : List Int × DV => decide (p.1 = a) := funext fun p => dec_inl p.1 a
  rw [e]
  split
  · rw [List.map_map, List.map_map]
    refine List.map_congr_left fun p _ => ?_
    show (if (p.1.map Sum.inl : List Key) = a.map Sum.inl then _ else _) = _
    by_cases h : p.1 = a
    · rw [if_pos (by rw [h])]
      show _ = ((if p.1 = a then (p.1, v) else p).1.map Sum.inl, (if p.1 = a then (p.1, v) else p).2)
      rw [if_pos h]
    · rw [if_neg fun z => h (inl_inj z)]
      show _ = ((if p.1 = a then (p.1, v) else p).1.map Sum.inl, (if p.1 = a then (p.1, v) else p).2)
      rw [if_neg h]
  · rw [List.map_append]
    rfl
theorem dput_tab (l : List (List Int × DV)) (a : List Int) (v : DV) (h : l.length < sizeLine) : dput (some (.dT (tabD l))) (.d (TI a)) v = some (.dT (tabD (putT l a v))) := by
  show (match titems (.d (TI a)) with | some ys => (match keyT ys with | some q => if (tabD l).length < sizeLine then some (MO.dT (putD (tabD l) q v)) else none | none => none) | none => none) = _
  rw [show titems (.d (TI a)) = some ((a.map PyData.int).map DV.d) from rfl]
  show (match keyT ((a.map PyData.int).map DV.d) with | some q => if (tabD l).length < sizeLine then some (MO.dT (putD (tabD l) q v)) else none | none => none) = _
  rw [keyT_ints]
  show (if (tabD l).length < sizeLine then some (MO.dT (putD (tabD l) (a.map Sum.inl) v)) else none) = _
  rw [len_tab, if_pos h, put_tab]
end UC
end
section
set_option Elab.async false
set_option linter.all false
set_option maxRecDepth 100000
set_option maxHeartbeats 1000000
open PySem L2 DL
local macro_rules | `(tactic| walk_at "E") => `(tactic| (try simp only [qAsg, qRet, qDrop, qIfS, qTest, qAndT, qOrT, qNotT, qAndV, qOrV, qNotV, qIf, qOp, qUn, qChain, onB, qv, qc, qgN, qgT, qgCons, qgNil, qCons, qNil, qTup, qLst, qPar, qPar3, qAug, qCB, qCall, qLen, qTupleC, qListC, qMax2, qMin2, qIntC, qSum, qAny, qAll, qIsi, tyName, qAdd, qSub, qMul, qFdiv, qMod, qPow, qI2, qCmpI, qEq, qNe, qLt, qLe, qGt, qGe, qNeg, qIx, qDGet, qDIn, qDPut, qSl, qPart, qNoPart, qNext, qFor, qiSeq, qiRng1, qiRng2, qiZip, qiEnum, qLc, seqSrc, lsrc, titems, litems, sitems, fz, newL, List.getElem?_cons_zero, List.getElem?_cons_succ, List.set_cons_zero, List.set_cons_succ, if_true, if_false, Bool.false_eq_true, ite_true, ite_false, up_same, reduceIte, decide_true, decide_false, true_and, and_true]))
namespace UC
open PySem L2 DL RD
abbrev I (i : Int) : DV := .d (.int i)
abbrev Bo (b : Bool) : DV := .d (.bool b)
def mkM (left seed : Int) (cells : List Int) (spot : Int) : MO := .dK [(.inr "left", I left), (.inr "seed", I seed), (.inr "cells", .d (.list (cells.map .int))), (.inr "spot", I spot)]
def DrawSt (st : Sto) (a : Addr) (B : Nat) : Prop := ∃ (left seed : Int) (cells : List Int) (spot : Int), st a = some (mkM left seed cells spot) ∧ cells ≠ [] ∧ 0 ≤ spot ∧ spot ≤ B
theorem DrawSt.mono {st : Sto} {a : Addr} {B B' : Nat} (h : DrawSt st a B) (hb : B ≤ B') : DrawSt st a B' := by
  obtain ⟨l, s, c, p, h1, h2, h3, h4⟩ := h
  exact ⟨l, s, c, p, h1, h2, h3, by omega⟩
theorem look_left {l s : Int} {c : List Int} {p : Int} : dlook (some (mkM l s c p)) (.d (.str "left")) = some (some (I l)) := by rfl
theorem look_seed {l s : Int} {c : List Int} {p : Int} : dlook (some (mkM l s c p)) (.d (.str "seed")) = some (some (I s)) := by rfl
theorem look_cells {l s : Int} {c : List Int} {p : Int} : dlook (some (mkM l s c p)) (.d (.str "cells")) = some (some (.d (.list (c.map .int)))) := by rfl
theorem look_spot {l s : Int} {c : List Int} {p : Int} : dlook (some (mkM l s c p)) (.d (.str "spot")) = some (some (I p)) := by rfl
theorem put_left {l s l' : Int} {c : List Int} {p : Int} : dput (some (mkM l s c p)) (.d (.str "left")) (I l') = some (mkM l' s c p) := by rfl
theorem put_spot {l s p' : Int} {c : List Int} {p : Int} : dput (some (mkM l s c p)) (.d (.str "spot")) (I p') = some (mkM l s c p') := by rfl
def sp_law_draw : SpD := fun xs st Q => ∃ (a : Addr) (below : Int) (B : Nat), xs = [.r a, I below] ∧ 1 ≤ below ∧ below < 2 ^ 30 ∧ B < 2 ^ 50 ∧ DrawSt st a B ∧
  ∀ (v : Int) st', 0 ≤ v → v < below → DrawSt st' a (B + 1) → (∀ b, b ≠ a → st' b = st b) → Q (I v) st'
theorem sem_law_draw : ∀ xs st Q, sp_law_draw xs st Q → rd_law_draw { nx := fun _ st' => Fg Q (.d .none) st', rt := Fg Q } (startD 8 xs) st := by
  rintro xs st Q ⟨a, below, B, rfl, h1, h2, hB, ⟨left, seed, cells, spot, hm, hc, hs0, hsB⟩, k⟩
  have e0 : startD 8 [.r a, I below] = [some (.r a), some (I below), none, none, none, none, none, none] := rfl
  rw [e0]
  unfold rd_law_draw
  refine seq fun N hN => ?_
  walk_at "E"
  simp only [hm, look_left]
  walk_at "E"
  by_cases hl : 0 < left
  · simp only [hl, decide_true, if_true]
    refine seq fun N1 hN1 => ?_
    walk_at "E"
    simp only [hm, look_left]
    walk_at "E"
    refine ⟨by omega, hN1 _ _ ?_⟩
    refine seq fun N2 hN2 => ?_
    walk_at "E"
    simp only [hm, look_left, put_left]
    walk_at "E"
    refine ⟨.inl ⟨by omega, by omega⟩, hN2 _ _ ?_⟩
    walk_at "E"
    obtain ⟨r1, r2⟩ := fmod_range (i := left) (j := below) (by omega)
    exact ⟨_, Le.refl _, k _ _ r1 r2 ⟨_, seed, cells, spot, up_same, hc, hs0, by omega⟩ fun b hb => up_ne hb⟩
  · simp only [hl, decide_false]
    walk_at "E"
    refine hN _ _ ?_
    clear hN N
    refine seq fun N hN => ?_
    walk_at "E"
    simp only [hm, look_spot]
    refine hN _ _ ?_
    clear hN N
    refine seq fun N hN => ?_
    walk_at "E"
    simp only [hm, put_spot]
    walk_at "E"
    refine hN _ _ ?_
    clear hN N
    refine seq fun N hN => ?_
    walk_at "E"
    simp only [up_same, look_cells, look_seed]
    walk_at "E"
    refine ⟨cmul_l (by omega) (by omega), cmul_r (by omega) (by omega), hN _ _ ?_⟩
    clear hN N
    have hlen : 0 < cells.length := List.length_pos_iff.mpr hc
    obtain ⟨j, hj, hjl⟩ : ∃ j : Nat, spot.fmod (cells.length : Int) = (j : Int) ∧ j < cells.length := by
      obtain ⟨r1, r2⟩ := fmod_range (i := spot) (j := (cells.length : Int)) (by omega)
      exact ⟨(spot.fmod (cells.length : Int)).toNat, by omega, by omega⟩
    refine seq fun N hN => ?_
    walk_at "E"
    simp only [List.length_map, hj, atI_map2 hjl]
    refine ⟨by omega, hN _ _ ?_⟩
    clear hN N
    refine seq fun N hN => ?_
    walk_at "E"
    refine ⟨cmul_l (by omega) (by omega), cmul_r (by omega) (by omega), by omega, hN _ _ ?_⟩
    clear hN N
    generalize hb1 : (cells[j] * (2 * spot + 3) + (seed + 40503 * spot * spot)).fmod 2147483647 = b1
    obtain ⟨r1, r2⟩ := fmod_range (i := cells[j] * (2 * spot + 3) + (seed + 40503 * spot * spot)) (j := 2147483647) (by omega)
    rw [hb1] at r1 r2
    refine seq fun N hN => ?_
    walk_at "E"
    simp only [up_same, look_seed]
    walk_at "E"
    refine ⟨cmul_l (by omega) (by omega), cmul_l (by omega) (by omega), by omega, hN _ _ ?_⟩
    clear hN N
    generalize hb2 : (b1 * b1 + 69621 * spot + seed).fmod 2147483629 = b2
    obtain ⟨r3, r4⟩ := fmod_range (i := b1 * b1 + 69621 * spot + seed) (j := 2147483629) (by omega)
    rw [hb2] at r3 r4
    walk_at "E"
    refine ⟨cmul_l (by omega) (by omega), by omega, .inl ⟨by omega, by omega⟩, by omega, ?_⟩
    obtain ⟨r5, r6⟩ := fmod_range (i := (((b2 * 48271 + spot).fmod 2147483647).fdiv 11)) (j := below) (by omega)
    exact ⟨_, Le.refl _, k _ _ r5 r6 ⟨left, seed, cells, spot + 1, up_same, hc, by omega, by omega⟩ fun b hb => up_ne hb⟩
theorem len_law_draw : ∀ xs st Q, sp_law_draw xs st Q → xs.length = 2 := by
  rintro xs st Q ⟨a, below, B, rfl, _⟩
  rfl
/-- the cells of a turn -/
def sp_law_begun : SpD := fun xs st Q => ∃ (ns : List Int) (k : Int), xs = [.d (.list (ns.map .int)), I k] ∧ ns.length ≤ 63 ∧ 0 ≤ k ∧ k < 2 ^ 40 ∧
  ∀ p st', st p = none → DrawSt st' p 0 → (∀ b, b ≠ p → st' b = st b) → Q (.r p) st'
theorem len_law_begun : ∀ xs st Q, sp_law_begun xs st Q → xs.length = 2 := by
  rintro xs st Q ⟨ns, k, rfl, _⟩
  rfl
theorem sem_law_begun : ∀ xs st Q, sp_law_begun xs st Q → rd_law_begun { nx := fun _ st' => Fg Q (.d .none) st', rt := Fg Q } (startD 6 xs) st := by
  rintro xs st Q ⟨ns, k, rfl, h1, h2, h3, K⟩
  have e0 : startD 6 [.d (.list (ns.map .int)), I k] = [some (.d (.list (ns.map .int))), some (I k), none, none, none, none] := rfl
  rw [e0]
  unfold rd_law_begun
  refine seq fun N hN => ?_
  walk_at "E"
  simp only [cutD_map, datas_map, ← List.map_append]
  walk_at "E"
  generalize hcs : (cutD ns (some k) none ++ cutD ns none (some k)) = cs
  have hl : cs.length ≤ 126 := by
    rw [← hcs, List.length_append]
    have a := cutD_len ns (some k) none
    have b := cutD_len ns none (some k)
    omega
  have hl2 : (List.map PyData.int (cutD ns (some k) none)).length + (List.map PyData.int (cutD ns none (some k))).length ≤ sizeLine := by
    have a := cutD_len ns (some k) none
    have b := cutD_len ns none (some k)
    rw [List.length_map, List.length_map, sizeL]
    omega
  simp only [List.length_map] at hl2 ⊢
  refine ⟨hl2, hN _ _ ?_⟩
  clear hN N
  -- great
  refine seq fun N hN => ?_
  walk_at "E"
  refine ⟨by simp only [List.length_map, sizeL]; omega, ?_⟩
  refine comp_fm (fun x => match x with | .d (.int i) => decide (10 ^ 18 ≤ i) | _ => false) id trivial _ _ ?_ ?_
  · intro x hx Q1 Q2 h
    rw [List.mem_map] at hx
    obtain ⟨y, hy, rfl⟩ := hx
    rw [List.mem_map] at hy
    obtain ⟨i, hi, rfl⟩ := hy
    simp only [wipeD]
    walk_at "E"
    simp only [id] at h
    simp only [CPow]
    exact ⟨by decide, h⟩
  · obtain ⟨gs, hgs⟩ : ∃ gs : List Int, (([] : List DV) ++ ((cs.map PyData.int).map DV.d |>.filter (fun x => match x with | .d (.int i) => decide (10 ^ 18 ≤ i) | _ => false)).map id) = (gs.map PyData.int).map DV.d := by
      refine ⟨cs.filter fun i => decide (10 ^ 18 ≤ i), ?_⟩
      rw [List.nil_append, List.map_id, List.map_map, List.map_map, List.filter_map]
      rfl
    rw [hgs]
    simp only [newL, datas_map]
    refine hN _ _ ?_
    clear hN N
    refine seq fun N hN => ?_
    walk_at "E"
    refine hN _ _ ?_
    clear hN N
    -- the seed
    refine seq fun N hN => ?_
    walk_at "E"
    refine for_by (fun _ ε s => s = st ∧ ∃ (seed : Int) (x : Option DV), 0 ≤ seed ∧ seed < 2 ^ 50 ∧ ε = [some (.d (.list (ns.map .int))), some (I k), some (.d (.list (cs.map .int))), some (.d (.list (gs.map .int))), some (I seed), x]) ⟨rfl, 71 + k, none, by omega, by omega, rfl⟩ (fun _ _ _ _ => trivial) ?_ ?_
    · rintro x ys ε s hx ⟨rfl, seed, y, s1, s2, rfl⟩ L hL
      rw [List.mem_map] at hx
      obtain ⟨z, hz, rfl⟩ := hx
      rw [List.mem_map] at hz
      obtain ⟨i, hi, rfl⟩ := hz
      walk_at "E"
      obtain ⟨r1, r2⟩ := fmod_range (i := seed * 48271 + i) (j := 2147483647) (by omega)
      exact ⟨cmul_l (by omega) (by omega), by omega, hL _ _ ⟨rfl, _, _, r1, by omega, rfl⟩⟩
    · rintro ε s ⟨rfl, seed, y, s1, s2, rfl⟩
      refine hN _ _ ?_
      clear hN N
      simp only [qRet, qDisp, qPairs]
      walk_at "E"
      have fin : ∀ l0 : Int, (∀ p, s p = none → Fg Q (.r p) (up s p (mkM l0 seed (cs ++ [53 * k + 11]) 0))) := fun l0 p hp =>
        ⟨_, Le.refl _, K p _ hp ⟨l0, seed, _, 0, up_same, by simp, by omega, by omega⟩ fun b hb => up_ne hb⟩
      have e1 : datas [DV.d (PyData.int (53 * k + 11))] = some [PyData.int (53 * k + 11)] := rfl
      have e2 : (List.map DV.d (List.map PyData.int cs) ++ List.map DV.d [PyData.int (53 * k + 11)]) = List.map DV.d (List.map PyData.int (cs ++ [53 * k + 11])) := by simp
      have e3 : datas [] = some [] := rfl
      simp only [e1, e2, e3, datas_map, eqv_nilL, shaped_nilL, shaped_LI, List.length_map, List.length_nil, List.length_singleton, true_and]
      refine ⟨by decide, ?_⟩
      by_cases hg : gs = []
      · simp only [hg, decide_true, Bool.not_true, Bool.false_eq_true, if_false]
        exact ⟨cmul_l (by omega) (by omega), by decide, by rw [sizeL]; omega, show 4 ≤ 15 by decide, fin 0⟩
      · simp only [hg, decide_false, Bool.not_false, if_true]
        cases gs with
        | nil => exact absurd rfl hg
        | cons g0 gr =>
          have e4 : atI (List.map DV.d (List.map PyData.int (g0 :: gr))) 0 = some (.d (.int g0)) := atI_map2 (j := 0) (by simp)
          simp only [e4]
          exact ⟨cmul_l (by omega) (by omega), by decide, by rw [sizeL]; omega, show 4 ≤ 15 by decide, fin g0⟩
/-- one of some things -/
def sp_law_of : SpD := fun xs st Q => ∃ (a : Addr) (x : DV) (l : List PyData) (B : Nat), xs = [.r a, x] ∧ (x = .d (.list l) ∨ x = .d (.tuple l)) ∧ l ≠ [] ∧ l.length < 2 ^ 30 ∧ B < 2 ^ 50 ∧ DrawSt st a B ∧
  ∀ (v : PyData) st', v ∈ l → DrawSt st' a (B + 1) → (∀ b, b ≠ a → st' b = st b) → Q (.d v) st'
theorem len_law_of : ∀ xs st Q, sp_law_of xs st Q → xs.length = 2 := by
  rintro xs st Q ⟨a, x, its, B, rfl, _⟩
  rfl
theorem sem_law_of : ∀ xs st Q, sp_law_of xs st Q → rd_law_of sp_law_draw { nx := fun _ st' => Fg Q (.d .none) st', rt := Fg Q } (startD 2 xs) st := by
  rintro xs st Q ⟨a, x, l, B, rfl, hx, h0, h1, hB, D, K⟩
  have e0 : startD 2 [.r a, x] = [some (.r a), some x] := rfl
  rw [e0]
  unfold rd_law_of
  have hl : 0 < l.length := List.length_pos_iff.mpr h0
  rcases hx with rfl | rfl
  all_goals
    walk_at "E"
    simp only [List.length_map]
    refine ⟨a, _, B, rfl, by omega, by omega, hB, D, fun v st' v0 v1 D' k => ?_⟩
    obtain ⟨j, rfl⟩ : ∃ j : Nat, v = (j : Int) := ⟨v.toNat, by omega⟩
    have hj : j < l.length := by omega
    have e1 : atI (List.map DV.d l) (j : Int) = some (.d l[j]) := atI_nat (by rw [List.getElem?_map, List.getElem?_eq_getElem hj]; rfl)
    simp only [e1]
    exact ⟨_, Le.refl _, K _ _ (List.getElem_mem hj) D' k⟩
end UC
end
section
set_option Elab.async false
set_option linter.all false
set_option maxRecDepth 100000
set_option maxHeartbeats 1000000
namespace UC
open PySem L2 DL RD
theorem draw {st : Sto} {a : Addr} {B : Nat} {below : Int} {Q : DV → Sto → Prop} (D : DrawSt st a B) (h1 : 1 ≤ below) (h2 : below < 2 ^ 30) (hB : B < 2 ^ 50)
    (k : ∀ (v : Int) st', 0 ≤ v → v < below → DrawSt st' a (B + 1) → (∀ b, b ≠ a → st' b = st b) → Q (I v) st') : sp_law_draw [.r a, I below] st Q := ⟨a, below, B, rfl, h1, h2, hB, D, k⟩
theorem drawOf {st : Sto} {a : Addr} {B : Nat} {l : List PyData} {Q : DV → Sto → Prop} (D : DrawSt st a B) (h0 : l ≠ []) (h1 : l.length < 2 ^ 30) (hB : B < 2 ^ 50)
    (k : ∀ (v : PyData) st', v ∈ l → DrawSt st' a (B + 1) → (∀ b, b ≠ a → st' b = st b) → Q (.d v) st') : sp_law_of [.r a, .d (.list l)] st Q := ⟨a, _, l, B, rfl, .inl rfl, h0, h1, hB, D, k⟩
theorem drawI {st : Sto} {a : Addr} {B : Nat} {Q : DV → Sto → Prop} (l : List Int) (D : DrawSt st a B) (h0 : l ≠ []) (h1 : l.length < 2 ^ 30) (hB : B < 2 ^ 50)
    (k : ∀ (i : Int) st', i ∈ l → DrawSt st' a (B + 1) → (∀ b, b ≠ a → st' b = st b) → Q (I i) st') : sp_law_of [.r a, .d (.list (l.map .int))] st Q := drawOf D (by simpa using h0) (by simpa using h1) hB fun v st' hv D' fr => by
  obtain ⟨i, hi, rfl⟩ := List.mem_map.mp hv
  exact k i st' hi D' fr
theorem begun {st : Sto} {ns : List Int} {k : Int} {Q : DV → Sto → Prop} (h1 : ns.length ≤ 63) (h2 : 0 ≤ k) (h3 : k < 2 ^ 40) (K : ∀ p st', DrawSt st' p 0 → (∀ b, b ≠ p → st' b = st b) → Q (.r p) st') : sp_law_begun [.d (.list (ns.map .int)), I k] st Q := ⟨ns, k, rfl, h1, h2, h3, fun p st' _ => K p st'⟩
/-- a comprehension whose elements draw, with the index -/
theorem comp_wordI {α : Type} (h : α → DV) {inv : Sto → Prop} {g : TDg} {te : TD} {ε : DL.Env} {Kc : List DV → Sto → Prop} (W : Nat → List DV → Sto → Prop) (hi : ∀ i acc st, W i acc st → inv st) (l : List α) (st : Sto) (w0 : W 0 [] st)
    (hx : ∀ i p acc st, l[i]? = some p → W i acc st → ∀ Q : DV → Sto → Prop, (∀ y s, W (i + 1) (acc ++ [y]) s → Q y s) → g (h p) ε st fun ε1 s1 => te ε1 s1 Q) (k : ∀ acc st, W l.length acc st → Kc acc st) : qComp inv g qYes te ε Kc (l.map h) [] st := by
  have : ∀ (r : List α) (i : Nat) acc st, l.drop i = r → i + r.length = l.length → W i acc st → qComp inv g qYes te ε Kc (r.map h) acc st := by
    intro r
    induction r with
    | nil =>
      intro i acc st hdr hlen w
      have e : i = l.length := by simpa using hlen
      subst e
      exact ⟨hi _ _ _ w, k _ _ w⟩
    | cons y r ih =>
      intro i acc st hdr hlen w
      have hx' : l[i]? = some y := by
        have := congrArg (fun z => z[0]?) hdr
        simp only [List.getElem?_drop, List.getElem?_cons_zero, Nat.add_zero] at this
        exact this
      refine ⟨hi _ _ _ w, ?_⟩
      refine hx i y acc st hx' w (fun z s3 => qComp inv g qYes te ε Kc (r.map h) (acc ++ [z]) s3) fun z s w' => ?_
      refine ih (i + 1) (acc ++ [z]) s ?_ (by simp only [List.length_cons] at hlen; omega) w'
      rw [← List.drop_drop, hdr]
      rfl
  exact this l 0 [] st rfl (by simp) w0
theorem range_some {n i p : Nat} (h : (List.range n)[i]? = some p) : p = i ∧ i < n := by
  by_cases hlt : i < n
  · rw [List.getElem?_range hlt] at h
    cases h
    exact ⟨rfl, hlt⟩
  · rw [List.getElem?_eq_none (by rw [List.length_range]; omega)] at h
    cases h
theorem kitB_tt : kitB "tuple" "tuple" = some true := by decide +kernel
theorem kitB_ll : kitB "list" "list" = some true := by decide +kernel
theorem kitB_dd : kitB "dict" "dict" = some true := by decide +kernel
theorem kitB_bb : kitB "bool" "bool" = some true := by decide +kernel
theorem kitB_ib : kitB "int" "bool" = some false := by decide +kernel
theorem kitB_ii : kitB "int" "int" = some true := by decide +kernel
theorem kitB_ss : kitB "str" "str" = some true := by decide +kernel
theorem kitB_tl : kitB "tuple" "list" = some false := by decide +kernel
theorem kitB_lt : kitB "list" "tuple" = some false := by decide +kernel
/-- reading of a cell -/
def gd (a : List Int) (j : Nat) : Int := a.getD j 0
theorem gd_eq {a : List Int} {j : Nat} (h : j < a.length) : a[j] = gd a j := by
  unfold gd
  rw [List.getD_eq_getElem?_getD, List.getElem?_eq_getElem h]
  rfl
theorem atI_gd {a : List Int} {j : Nat} (h : j < a.length) : atI (List.map DV.d (List.map PyData.int a)) (j : Int) = some (I (gd a j)) := by
  rw [atI_map2 (f := PyData.int) h, gd_eq h]
theorem range_gd (a : List Int) : (List.range a.length).map (gd a) = a := by
  refine List.ext_getElem (by simp) fun i h1 h2 => ?_
  rw [List.getElem_map, List.getElem_range, gd_eq h2]
theorem zip_range {a b : List Int} {n : Nat} (ha : a.length = n) (hb : b.length = n) : a.zip b = (List.range n).map fun j => (gd a j, gd b j) := by
  refine List.ext_getElem (by simp; omega) fun i h1 h2 => ?_
  rw [List.getElem_map, List.getElem_range, List.getElem_zip, gd_eq, gd_eq]
theorem zipIdx_range (a : List Int) : a.zipIdx = (List.range a.length).map fun j => (gd a j, j) := by
  refine List.ext_getElem (by simp) fun i h1 h2 => ?_
  rw [List.getElem_map, List.getElem_range, List.getElem_zipIdx, Nat.zero_add, gd_eq]
theorem gd_mem {a : List Int} {j : Nat} (h : j < a.length) : gd a j ∈ a := by
  rw [← gd_eq h]
  exact List.getElem_mem h
theorem rngD0 (n : Nat) : rngD 0 n = (List.range n).map fun (j : Nat) => I (j : Int) := by
  unfold rngD
  refine List.map_congr_left fun j _ => ?_
  rw [Int.zero_add]
theorem gd_ext {a b : List Int} {n : Nat} (ha : a.length = n) (hb : b.length = n) : a = b ↔ ∀ j < n, gd a j = gd b j := by
  constructor
  · rintro rfl j hj
    rfl
  · intro h
    rw [← range_gd a, ← range_gd b, ha, hb]
    exact List.map_congr_left fun j hj => h j (List.mem_range.mp hj)
theorem gd_zw {f : Int → Int → Int} {a b : List Int} {n j : Nat} (ha : a.length = n) (hb : b.length = n) (hj : j < n) : gd (List.zipWith f a b) j = f (gd a j) (gd b j) := by
  rw [← gd_eq (by rw [List.length_zipWith]; omega), List.getElem_zipWith, gd_eq, gd_eq]
theorem gd_rep {n j : Nat} {x : Int} (hj : j < n) : gd (List.replicate n x) j = x := by
  rw [← gd_eq (by rw [List.length_replicate]; exact hj), List.getElem_replicate]
theorem len_zw {f : Int → Int → Int} {a b : List Int} {n : Nat} (ha : a.length = n) (hb : b.length = n) : (List.zipWith f a b).length = n := by
  rw [List.length_zipWith]; omega
theorem filter_nil {α : Type} {l : List α} {p : α → Bool} : l.filter p = [] ↔ ∀ x ∈ l, p x = false := by
  rw [List.filter_eq_nil_iff]
  constructor
  · intro h x hx
    exact Bool.eq_false_iff.mpr (h x hx)
  · intro h x hx e
    rw [h x hx] at e
    cases e
theorem bool_dec {b : Bool} {p : Prop} [Decidable p] (h : b = true ↔ p) : b = decide p := by
  cases b with
  | true => exact (decide_eq_true (h.mp rfl)).symm
  | false => exact (decide_eq_false fun hp => Bool.false_ne_true (h.mpr hp)).symm
theorem flat_rep {α : Type} (n : Nat) (x : α) : (List.replicate n [x]).flatten = List.replicate n x := by
  induction n with
  | zero => rfl
  | succ n ih => rw [List.replicate_succ, List.flatten_cons, ih]; rfl
theorem rep_I (n : Nat) (x : Int) : mkT (List.replicate n [I x]).flatten = .d (TI (List.replicate n x)) := by
  rw [flat_rep, ← List.map_replicate (f := I), show (List.map I (List.replicate n x)) = (List.map PyData.int (List.replicate n x)).map DV.d by rw [List.map_map]; rfl, mkT_map]
theorem turns (l : Nat) (m M : Int) (h : 0 ≤ m) (hM : m ≤ M) : ∃ t : Nat, (if (if M < (l : Int) then M else (l : Int)) > m then (if M < (l : Int) then M else (l : Int)) else m) = (t : Int) ∧ (t : Int) ≤ M := by
  refine ⟨(if (if M < (l : Int) then M else (l : Int)) > m then (if M < (l : Int) then M else (l : Int)) else m).toNat, ?_, ?_⟩ <;> split <;> split <;> omega
theorem le_size4 : (0 + 1 + 1 + 1 + 1 ≤ sizeLine) = True := by decide
theorem I_eq (i : Int) : I i = .d (.int i) := rfl
theorem Bo_eq (i : Bool) : Bo i = .d (.bool i) := rfl
theorem ints_dv {α : Type} (f : α → Int) (l : List α) : List.map (fun x => I (f x)) l = ((l.map f).map PyData.int).map DV.d := by
  rw [List.map_map, List.map_map]
  rfl
theorem ints_dv0 {α : Type} (f : α → Int) (l : List α) : [] ++ List.map (fun x => I (f x)) l = ((l.map f).map PyData.int).map DV.d := by
  rw [List.nil_append, ints_dv]
end UC
end
section
set_option Elab.async false
set_option linter.all false
set_option maxRecDepth 100000
set_option maxHeartbeats 1000000
namespace UC
open PySem L2 DL RD
def divB (a b : List Int) : Bool := (a.zip b).all fun p => decide (p.1 ≤ p.2)
def lcmL (a b : List Int) : List Int := List.zipWith max a b
def mulL (a b : List Int) : List Int := List.zipWith (· + ·) a b
def cutL (a b : List Int) : List Int := List.zipWith (fun x y => max (x - y) 0) a b
/-- a monomial of n variables, its exponents at most w -/
def Mon (n : Nat) (w : Int) (a : List Int) : Prop := a.length = n ∧ ∀ x ∈ a, 0 ≤ x ∧ x ≤ w
theorem Mon.mono {n : Nat} {w w' : Int} {a : List Int} (h : Mon n w a) (hw : w ≤ w') : Mon n w' a := ⟨h.1, fun x hx => ⟨(h.2 x hx).1, Int.le_trans (h.2 x hx).2 hw⟩⟩
theorem Mon.bd {n : Nat} {w : Int} {a : List Int} (h : Mon n w a) : TS.Bd (w + 1) a := fun x hx => ⟨(h.2 x hx).1, by have := (h.2 x hx).2; omega⟩
theorem divB_iff {a b : List Int} {n : Nat} (ha : a.length = n) (hb : b.length = n) : divB a b = true ↔ ∀ j < n, gd a j ≤ gd b j := by
  unfold divB
  rw [zip_range ha hb, List.all_eq_true]
  constructor
  · intro h j hj
    exact of_decide_eq_true (h _ (List.mem_map.mpr ⟨j, List.mem_range.mpr hj, rfl⟩))
  · intro h x hx
    obtain ⟨j, hj, rfl⟩ := List.mem_map.mp hx
    exact decide_eq_true (h j (List.mem_range.mp hj))
theorem divB_refl (a : List Int) : divB a a = true := (divB_iff rfl rfl).mpr fun j _ => Int.le_refl _
theorem divB_trans {a b c : List Int} {n : Nat} (ha : a.length = n) (hb : b.length = n) (hc : c.length = n) (h1 : divB a b = true) (h2 : divB b c = true) : divB a c = true :=
  (divB_iff ha hc).mpr fun j hj => Int.le_trans ((divB_iff ha hb).mp h1 j hj) ((divB_iff hb hc).mp h2 j hj)
theorem divB_anti {a b : List Int} {n : Nat} (ha : a.length = n) (hb : b.length = n) (h1 : divB a b = true) (h2 : divB b a = true) : a = b :=
  (gd_ext ha hb).mpr fun j hj => Int.le_antisymm ((divB_iff ha hb).mp h1 j hj) ((divB_iff hb ha).mp h2 j hj)
theorem divB_lex : ∀ {a b : List Int}, a.length = b.length → divB a b = true → a = b ∨ lexL a b = true
  | [], [], _, _ => .inl rfl
  | x :: a, y :: b, hl, h => by
    simp only [divB, List.zip_cons_cons, List.all_cons, Bool.and_eq_true, decide_eq_true_eq] at h
    have hl' : a.length = b.length := by simpa using hl
    simp only [lexL, Bool.or_eq_true, Bool.and_eq_true, decide_eq_true_eq, List.cons.injEq]
    by_cases e : x = y
    · rcases divB_lex hl' h.2 with k | k
      · exact .inl ⟨e, k⟩
      · exact .inr (.inr ⟨e, k⟩)
    · exact .inr (.inl (by omega))
/-- those that no other one divides, sorted -/
def minL (S : List (List Int)) : List (List Int) := (sortU S).filter fun a => decide ((sortU S).filter (fun b => decide (b ≠ a) && divB b a) = [])
def stepL (acc : List (List Int)) (m : List Int) : List (List Int) := if (acc.map fun o => divB o m).any id = true then acc else acc ++ [m]
structure Mins (S R : List (List Int)) : Prop where
  ris : RisL R
  sub : ∀ r ∈ R, r ∈ S
  cov : ∀ s ∈ S, ∃ r ∈ R, divB r s = true
  anti : ∀ r ∈ R, ∀ r' ∈ R, divB r r' = true → r = r'
theorem mins_minL {S : List (List Int)} {n : Nat} (hS : ∀ s ∈ S, s.length = n) : Mins S (minL S) := by
  have hq : ∀ s ∈ sortU S, s.length = n := fun s hs => hS s (mem_sortU.mp hs)
  refine ⟨(ris_sortU S).sublist List.filter_sublist, fun r hr => mem_sortU.mp (List.mem_filter.mp hr).1, fun s hs => ?_, fun r hr r' hr' h => ?_⟩
  · have hT : RisL ((sortU S).filter fun b => divB b s) := (ris_sortU S).sublist List.filter_sublist
    have hs' : s ∈ (sortU S).filter fun b => divB b s := List.mem_filter.mpr ⟨mem_sortU.mpr hs, divB_refl s⟩
    cases e : (sortU S).filter (fun b => divB b s) with
    | nil => rw [e] at hs'; cases hs'
    | cons r T =>
      have hr : r ∈ (sortU S).filter fun b => divB b s := by rw [e]; exact List.mem_cons_self
      obtain ⟨r1, r2⟩ := List.mem_filter.mp hr
      refine ⟨r, List.mem_filter.mpr ⟨r1, decide_eq_true ?_⟩, r2⟩
      rw [List.filter_eq_nil_iff]
      intro b hb hh
      simp only [Bool.and_eq_true, decide_eq_true_eq] at hh
      have hb2 : b ∈ (sortU S).filter fun b => divB b s := List.mem_filter.mpr ⟨hb, divB_trans (hq b hb) (hq r r1) (hS s hs) hh.2 r2⟩
      rw [e] at hb2 hT
      rcases List.mem_cons.mp hb2 with z | z
      · exact hh.1 z
      · have k1 := (List.pairwise_cons.mp hT).1 b z
        rcases divB_lex ((hq b hb).trans (hq r r1).symm) hh.2 with k | k
        · exact hh.1 k
        · have := lexL_tr k1 k
          rw [lexL_irr] at this
          cases this
  · obtain ⟨a1, a2⟩ := List.mem_filter.mp hr
    obtain ⟨b1, b2⟩ := List.mem_filter.mp hr'
    have := List.filter_eq_nil_iff.mp (of_decide_eq_true b2) r a1
    simp only [Bool.and_eq_true, decide_eq_true_eq, not_and] at this
    exact Classical.byContradiction fun hne => this hne h
theorem mins_fold {n : Nat} : ∀ (post acc pre : List (List Int)), RisL (pre ++ post) → (∀ s ∈ pre ++ post, s.length = n) → Mins pre acc → Mins (pre ++ post) (post.foldl stepL acc)
  | [], acc, pre, _, _, h => by rw [List.append_nil]; exact h
  | m :: post, acc, pre, hr, hl, h => by
    have e : pre ++ m :: post = (pre ++ [m]) ++ post := by simp
    have hm : m.length = n := hl m (by simp)
    rw [e] at hr hl ⊢
    refine mins_fold post (stepL acc m) (pre ++ [m]) hr hl ?_
    have hlex : ∀ r ∈ acc, lexL r m = true := fun r hr' => by
      have := (List.pairwise_append.mp hr).1
      exact (List.pairwise_append.mp this).2.2 r (h.sub r hr') m (List.mem_singleton.mpr rfl)
    have hla : ∀ r ∈ acc, r.length = n := fun r hr' => hl r (List.mem_append_left _ (List.mem_append_left _ (h.sub r hr')))
    unfold stepL
    by_cases ha : (acc.map fun o => divB o m).any id = true
    · rw [if_pos ha]
      refine ⟨h.ris, fun r hr' => List.mem_append_left _ (h.sub r hr'), fun s hs => ?_, h.anti⟩
      rcases List.mem_append.mp hs with hs | hs
      · exact h.cov s hs
      · rw [List.mem_singleton.mp hs]
        obtain ⟨b, hb, hb2⟩ := List.any_eq_true.mp ha
        obtain ⟨r, hr', rfl⟩ := List.mem_map.mp hb
        exact ⟨r, hr', hb2⟩
    · rw [if_neg ha]
      have hno : ∀ r ∈ acc, divB r m = false := fun r hr' => Bool.eq_false_iff.mpr fun z => ha (List.any_eq_true.mpr ⟨true, List.mem_map.mpr ⟨r, hr', z⟩, rfl⟩)
      refine ⟨List.pairwise_append.mpr ⟨h.ris, List.pairwise_singleton _ _, fun a ha b hb => by rw [List.mem_singleton.mp hb]; exact hlex a ha⟩, fun r hr' => ?_, fun s hs => ?_, fun r hr' r' hr'' hd => ?_⟩
      · rcases List.mem_append.mp hr' with z | z
        · exact List.mem_append_left _ (h.sub r z)
        · exact List.mem_append_right _ z
      · rcases List.mem_append.mp hs with hs | hs
        · obtain ⟨r, h1, h2⟩ := h.cov s hs
          exact ⟨r, List.mem_append_left _ h1, h2⟩
        · exact ⟨s, List.mem_append_right _ hs, divB_refl s⟩
      · rcases List.mem_append.mp hr' with z | z <;> rcases List.mem_append.mp hr'' with z' | z'
        · exact h.anti r z r' z' hd
        · rw [List.mem_singleton.mp z', hno r z] at hd
          cases hd
        · have zz := List.mem_singleton.mp z
          subst zz
          rcases divB_lex (hm.trans (hla r' z').symm) hd with k | k
          · exact k
          · have := lexL_tr k (hlex r' z')
            rw [lexL_irr] at this
            cases this
        · rw [List.mem_singleton.mp z, List.mem_singleton.mp z']
theorem mins_uniq {S R S' R' : List (List Int)} {n : Nat} (hS : ∀ s ∈ S, s.length = n) (hS' : ∀ s ∈ S', s.length = n) (h : Mins S R) (h' : Mins S' R') (c : ∀ s ∈ S, ∃ s' ∈ S', divB s' s = true) (c' : ∀ s ∈ S', ∃ s' ∈ S, divB s' s = true) : R = R' := by
  have key : ∀ {S R S' R' : List (List Int)}, (∀ s ∈ S, s.length = n) → (∀ s ∈ S', s.length = n) → Mins S R → Mins S' R' → (∀ s ∈ S, ∃ s' ∈ S', divB s' s = true) → (∀ s ∈ S', ∃ s' ∈ S, divB s' s = true) → ∀ r ∈ R, r ∈ R' := by
    intro S R S' R' hS hS' h h' c c' r hr
    obtain ⟨s', hs', d1⟩ := c r (h.sub r hr)
    obtain ⟨r', hr', d2⟩ := h'.cov s' hs'
    obtain ⟨s, hs, d3⟩ := c' r' (h'.sub r' hr')
    obtain ⟨q, hq, d4⟩ := h.cov s hs
    have lr := hS r (h.sub r hr)
    have ls' := hS' s' hs'
    have lr' := hS' r' (h'.sub r' hr')
    have ls := hS s hs
    have lq := hS q (h.sub q hq)
    have d5 : divB q r' = true := divB_trans lq ls lr' d4 d3
    have d6 : divB r' r = true := divB_trans lr' ls' lr d2 d1
    have e : q = r := h.anti q hq r hr (divB_trans lq lr' lr d5 d6)
    subst e
    rw [divB_anti lr lr' d5 d6]
    exact hr'
  exact ris_eq h.ris h'.ris fun x => ⟨key hS hS' h h' c c' x, key hS' hS h' h c' c x⟩
theorem fold_min {S : List (List Int)} {n : Nat} (hS : ∀ s ∈ S, s.length = n) : (sortU S).foldl stepL [] = minL S := by
  have hq : ∀ s ∈ sortU S, s.length = n := fun s hs => hS s (mem_sortU.mp hs)
  have h := mins_fold (n := n) (sortU S) [] [] (ris_sortU S) hq ⟨List.Pairwise.nil, (fun r hr => nomatch hr), (fun s hs => nomatch hs), (fun r hr => nomatch hr)⟩
  exact mins_uniq hq hS h (mins_minL hS) (fun s hs => ⟨s, mem_sortU.mp hs, divB_refl s⟩) fun s hs => ⟨s, mem_sortU.mpr hs, divB_refl s⟩
theorem min_cong {S S' : List (List Int)} {n : Nat} (hS : ∀ s ∈ S, s.length = n) (hS' : ∀ s ∈ S', s.length = n) (c : ∀ s ∈ S, ∃ s' ∈ S', divB s' s = true) (c' : ∀ s ∈ S', ∃ s' ∈ S, divB s' s = true) : minL S = minL S' := mins_uniq hS hS' (mins_minL hS) (mins_minL hS') c c'
theorem min_sub {S : List (List Int)} : ∀ r ∈ minL S, r ∈ S := fun r hr => mem_sortU.mp (List.mem_filter.mp hr).1
theorem min_idem {S : List (List Int)} {n : Nat} (hS : ∀ s ∈ S, s.length = n) : minL (minL S) = minL S :=
  min_cong (fun s hs => hS s (min_sub s hs)) hS (fun s hs => ⟨s, min_sub s hs, divB_refl s⟩) (mins_minL hS).cov
theorem min_len (S : List (List Int)) : (minL S).length ≤ S.length := Nat.le_trans (List.length_filter_le _ _) (sortU_len S)
def inL (L : List (List Int)) (c : List Int) : Bool := L.any fun g => divB g c
theorem inL_iff {L : List (List Int)} {c : List Int} : inL L c = true ↔ ∃ g ∈ L, divB g c = true := List.any_eq_true
theorem tints_TI (ts : List (List Int)) : tints ((ts.map TI).map DV.d) = some ts := tints_map ts
theorem dv_TI (l : List (List Int)) : (l.map fun a => DV.d (.tuple (a.map .int))) = (l.map TI).map DV.d := by
  rw [List.map_map]
  rfl
theorem tis_dv0 (l : List (List Int)) : [] ++ (l.map fun a => DV.d (TI a)) = (l.map TI).map DV.d := dv_TI l
theorem atI_0 {α : Type} (x : α) (l : List α) : atI (x :: l) 0 = some x := atI_nat (j := 0) rfl
theorem atI_1 {α : Type} (x y : α) (l : List α) : atI (x :: y :: l) 1 = some y := atI_nat (j := 1) rfl
theorem atI_2 {α : Type} (x y z : α) (l : List α) : atI (x :: y :: z :: l) 2 = some z := atI_nat (j := 2) rfl
theorem mk_app (a b : List PyData) : mkT (a.map .d ++ b.map .d) = .d (.tuple (a ++ b)) := by
  rw [← List.map_append, mkT_map]
theorem mk_appT (a b : List (List Int)) : mkT ((a.map TI).map .d ++ (b.map TI).map .d) = .d (TT (a ++ b)) := by
  rw [mk_app, ← List.map_append]
theorem mk_snocI (a : List Int) (k : Int) : mkT ((a.map PyData.int).map .d ++ [.d (.int k)]) = .d (TI (a ++ [k])) := by
  have := mk_app (a.map .int) [.int k]
  rw [show TI (a ++ [k]) = .tuple (a.map .int ++ [.int k]) by simp [TI], ← this]
  rfl
@[reducible] def idl (n : Nat) (l : List (List Int)) : PyData := .tuple [.int n, TT l]
theorem size_of {n m : Nat} (h : n ≤ m) (hm : m ≤ 100000) : n ≤ sizeLine := by rw [sizeL]; omega
theorem sitems_le {st st' : Sto} {x : DV} {l : List DV} (h : sitems st x = some l) (hl : Le st st') : sitems st' x = some l := by
  cases x with
  | d z => cases z <;> exact h
  | t ys => exact h
  | r a =>
    simp only [sitems, titems, litems] at h ⊢
    cases e : st a with
    | none => rw [e] at h; cases h
    | some m => rw [hl a m e]; rw [e] at h; exact h
theorem le_up {st st' : Sto} {p : Addr} (h0 : st p = none) (h : ∀ b, b ≠ p → st' b = st b) : Le st st' := fun a m e => by
  rw [h a (fun z => by rw [z, h0] at e; cases e)]
  exact e
theorem le_up1 {st : Sto} {p : Addr} {m : MO} (h0 : st p = none) : Le st (up st p m) := le_up h0 fun b hb => up_ne hb
theorem src_of2 {st : Sto} {x : DV} {l : List DV} (h : sitems st x = some l) : ∃ inv : Sto → Prop, seqSrc st x = some (l, inv) ∧ ∀ s', sitems s' x = some l → inv s' := by
  cases x with
  | d z =>
    cases z with
    | tuple ds => cases h; exact ⟨_, rfl, fun _ _ => trivial⟩
    | list ds => cases h; exact ⟨_, rfl, fun _ _ => trivial⟩
    | _ => cases h
  | t ys => cases h; exact ⟨_, rfl, fun _ _ => trivial⟩
  | r a =>
    have key : ∀ s', sitems s' (.r a) = some l → s' a = some (.lst l) := fun s' h => by
      simp only [sitems, titems, litems] at h
      cases e : s' a with
      | none => rw [e] at h; cases h
      | some m =>
        rw [e] at h
        cases m with
        | lst xs => cases h; rfl
        | _ => cases h
    exact ⟨fun s' => s' a = some (.lst l), by simp only [seqSrc, titems, lsrc, key st h], key⟩
theorem fg_le {Q : DV → Sto → Prop} {x : DV} {st st' : Sto} (hl : Le st st') (h : Q x st) : Fg Q x st' := ⟨st, hl, h⟩
end UC
end
section
set_option Elab.async false
set_option linter.all false
set_option maxRecDepth 100000
set_option maxHeartbeats 1000000
open PySem L2 DL
local macro_rules | `(tactic| walk_at "E") => `(tactic| (try simp only [qAsg, qRet, qDrop, qIfS, qTest, qAndT, qOrT, qNotT, qAndV, qOrV, qNotV, qIf, qOp, qUn, qChain, onB, qv, qc, qgN, qgT, qgCons, qgNil, qCons, qNil, qTup, qLst, qPar, qPar3, qAug, qCB, qCall, qLen, qTupleC, qListC, qMax2, qMin2, qIntC, qSum, qAny, qAll, qIsi, tyName, qAdd, qSub, qMul, qFdiv, qMod, qPow, qI2, qCmpI, qEq, qNe, qLt, qLe, qGt, qGe, qNeg, qIx, qDGet, qDIn, qDPut, qSl, qPart, qNoPart, qNext, qFor, qiSeq, qiRng1, qiRng2, qiZip, qiEnum, qLc, seqSrc, lsrc, titems, litems, sitems, fz, newL, List.getElem?_cons_zero, List.getElem?_cons_succ, List.set_cons_zero, List.set_cons_succ, if_true, if_false, Bool.false_eq_true, ite_true, ite_false, up_same, reduceIte, decide_true, decide_false, true_and, and_true]))
namespace UC
open PySem L2 DL RD
def suppL (a : List Int) : List Int := (a.zipIdx.filter fun p => decide (0 < p.1)).map fun p => (p.2 : Int)
def sp_support_of : SpD := fun xs st Q => ∃ a : List Int, xs = [.d (TI a)] ∧ a.length ≤ 1000 ∧ Q (.d (TI (suppL a))) st
def sp_divides : SpD := fun xs st Q => ∃ a b : List Int, xs = [.d (TI a), .d (TI b)] ∧ Q (Bo (divB a b)) st
theorem len_support_of : ∀ xs st Q, sp_support_of xs st Q → xs.length = 1 := by rintro xs st Q ⟨a, rfl, _⟩; rfl
theorem len_divides : ∀ xs st Q, sp_divides xs st Q → xs.length = 2 := by rintro xs st Q ⟨a, b, rfl, _⟩; rfl
/-- the items of a zip of two monomials -/
theorem zipD_ints : ∀ a b : List Int, zipD ((a.map PyData.int).map DV.d) ((b.map PyData.int).map DV.d) = (a.zip b).map fun p => DV.d (.tuple [.int p.1, .int p.2])
  | [], _ => rfl
  | _ :: _, [] => rfl
  | x :: a, y :: b => by
    have ih := zipD_ints a b
    unfold zipD at ih ⊢
    rw [List.map_cons, List.map_cons, List.map_cons, List.map_cons, List.zipWith_cons_cons, ih, List.zip_cons_cons, List.map_cons]
    rfl
theorem enumD_ints (f : Int → PyData) : ∀ (a : List Int), enumD ((a.map f).map DV.d) = a.zipIdx.map fun p => DV.d (.tuple [.int p.2, f p.1]) := by
  intro a
  unfold enumD
  rw [List.map_map, List.mapIdx_eq_zipIdx_map, List.zipIdx_map, List.map_map]
  rfl
theorem sem_support_of : ∀ xs st Q, sp_support_of xs st Q → rd_support_of { nx := fun _ st' => Fg Q (.d .none) st', rt := Fg Q } (startD 3 xs) st := by
  rintro xs st Q ⟨a, rfl, hl, K⟩
  have e0 : startD 3 [.d (TI a)] = [some (.d (TI a)), none, none] := rfl
  rw [e0]
  unfold rd_support_of
  walk_at "E"
  rw [enumD_ints]
  refine ⟨by rw [List.length_map, List.length_zipIdx, sizeL]; omega, ?_⟩
  refine comp_fmT _ (fun p : Int × Nat => decide (0 < p.1)) (fun p => I (p.2 : Int)) trivial _ _ ?_ ?_
  · intro p hp Q1 Q2 h
    simp only [wipeD]
    walk_at "E"
    simp only [List.map_cons, List.map_nil, List.length_cons, List.length_nil]
    walk_at "E"
    by_cases h0 : 0 < p.1
    · simp only [h0, decide_true, if_true] at h ⊢
      walk_at "E"
      exact h
    · simp only [h0, decide_false] at h ⊢
      exact h
  · have e1 : [] ++ ((a.zipIdx.filter fun p => decide (0 < p.1)).map fun p => I (p.2 : Int)) = ((suppL a).map PyData.int).map DV.d := by
      unfold suppL
      rw [List.nil_append, List.map_map, List.map_map]
      rfl
    rw [e1]
    simp only [datas_map]
    walk_at "E"
    rw [mkT_map]
    exact fg_ret K
theorem sem_divides : ∀ xs st Q, sp_divides xs st Q → rd_divides { nx := fun _ st' => Fg Q (.d .none) st', rt := Fg Q } (startD 4 xs) st := by
  rintro xs st Q ⟨a, b, rfl, K⟩
  have e0 : startD 4 [.d (TI a), .d (TI b)] = [some (.d (TI a)), some (.d (TI b)), none, none] := rfl
  rw [e0]
  unfold rd_divides
  refine seq fun N hN => ?_
  walk_at "E"
  rw [zipD_ints]
  refine for_byT _ (fun i ε s => s = st ∧ (((a.zip b).take i).all fun p => decide (p.1 ≤ p.2)) = true ∧ ∃ x y, ε = [some (.d (TI a)), some (.d (TI b)), x, y]) ⟨rfl, rfl, _, _, rfl⟩ (fun _ _ _ _ => trivial) ?_ ?_
  · rintro i p ε s hp ⟨rfl, ha, x, y, rfl⟩ L hL
    walk_at "E"
    simp only [List.map_cons, List.map_nil, List.length_cons, List.length_nil]
    walk_at "E"
    by_cases h : p.2 < p.1
    · simp only [h, decide_true, if_true]
      refine fg_ret ?_
      have e : divB a b = false := by
        unfold divB
        rw [List.all_eq_false]
        exact ⟨p, List.mem_of_getElem? hp, by simp; omega⟩
      rw [e] at K
      exact K
    · simp only [h, decide_false]
      walk_at "E"
      refine hL _ _ ⟨rfl, ?_, _, _, rfl⟩
      rw [List.take_succ, hp, List.all_append, ha]
      simp
      omega
  · rintro ε s ⟨rfl, ha, x, y, rfl⟩
    refine hN _ _ ?_
    walk_at "E"
    refine fg_ret ?_
    rw [List.take_length] at ha
    have e : divB a b = true := ha
    rw [e] at K
    exact K
theorem div_none {a b : List Int} {n : Nat} (ha : a.length = n) (hb : b.length = n) : divB a b = decide ((List.range n).filter (fun j => decide (gd b j < gd a j)) = []) := bool_dec <| by
  rw [divB_iff ha hb, filter_nil]
  constructor
  · intro h j hj
    exact decide_eq_false (by have := h j (List.mem_range.mp hj); omega)
  · intro h j hj
    have := of_decide_eq_false (h j (List.mem_range.mpr hj))
    omega
end UC
end
section
set_option Elab.async false
set_option linter.all false
set_option maxRecDepth 100000
set_option maxHeartbeats 1000000
open PySem L2 DL RD UC
local macro_rules | `(tactic| walk_at "E") => `(tactic| (try simp only [qAsg, qRet, qDrop, qIfS, qTest, qAndT, qOrT, qNotT, qAndV, qOrV, qNotV, qIf, qOp, qUn, qChain, onB, qv, qc, qgN, qgT, qgCons, qgNil, qCons, qNil, qTup, qLst, qPar, qPar3, qAug, qCB, qCall, qLen, qTupleC, qListC, qMax2, qMin2, qIntC, qSum, qAny, qAll, qIsi, tyName, qAdd, qSub, qMul, qFdiv, qMod, qPow, qI2, qCmpI, qEq, qNe, qLt, qLe, qGt, qGe, qNeg, qIx, qDGet, qDIn, qDPut, qSl, qPart, qNoPart, qNext, qFor, qiSeq, qiRng1, qiRng2, qiZip, qiEnum, qLc, seqSrc, lsrc, titems, litems, sitems, fz, newL, List.getElem?_cons_zero, List.getElem?_cons_succ, List.set_cons_zero, List.set_cons_succ, if_true, if_false, Bool.false_eq_true, ite_true, ite_false, up_same, reduceIte, decide_true, decide_false, true_and, and_true]))
local macro_rules | `(tactic| walk_at "D") => `(tactic| (try simp only [qAsg, qRet, qDrop, qIfS, qTest, qAndT, qOrT, qNotT, qAndV, qOrV, qNotV, qIf, qOp, qUn, qChain, onB, qv, qc, qgN, qgT, qgCons, qgNil, qCons, qNil, qTup, qLst, qPar, qPar3, qAug, qCB, qCall, qLen, qTupleC, qListC, qMax2, qMin2, qIntC, qSum, qAny, qAll, qIsi, tyName, qAdd, qSub, qMul, qFdiv, qMod, qPow, qI2, qCmpI, qEq, qNe, qLt, qLe, qGt, qGe, qNeg, qIx, qDGet, qDIn, qDPut, qSl, qPart, qNoPart, qNext, qFor, qiSeq, qiRng1, qiRng2, qiZip, qiEnum, qLc, seqSrc, lsrc, titems, litems, sitems, fz, newL, List.getElem?_cons_zero, List.getElem?_cons_succ, List.set_cons_zero, List.set_cons_succ, if_true, if_false, Bool.false_eq_true, ite_true, ite_false, up_same, reduceIte, decide_true, decide_false, true_and, and_true, eqv_int, eqv_bool, eqv_TI, eqv_LI, eqv_TT, eqv_LT, eqv_nilL, eqv_nilT, shaped_TI, shaped_LI, shaped_TT, shaped_LT, shaped_int, shaped_bool, shaped_nilL, shaped_nilT, dints_map2, dbools_map2, datas_map, mkT_map, mkT_0, mkT_1, mkT_2, mkT_3, List.length_map, List.length_cons, List.length_nil, List.length_append, List.map_cons, List.map_nil, wipeD, Bool.not_true, Bool.not_false, eq_self, not_true_eq_false, not_false_eq_true, kitB_tt, kitB_ll, kitB_dd, kitB_bb, kitB_ib, kitB_ii, kitB_ss, kitB_tl, kitB_lt, Function.comp, datas, Option.map_some, List.cons_append, List.nil_append, CPow, le_size4, Int.toNat_natCast, rngD0, I_eq, Bo_eq, BS.qSortB, in_IT, in_IL, in_TT, in_TL, qNotN, qIsN, qSortD, qListRg, qDispT, keyX_TI, qGet, qiItems, qLockE, qLockS, qPop, qMaxDf, qLc2, qMax1, qMin1, qAppend, qExtend, tints_TI, dv_TI, Option.bind_some, qRetN, atI_0, atI_1, atI_2, mk_appT, mk_snocI, idl, rep_I, Option.map_none, qComb, qGcd]))
local macro_rules | `(tactic| walk_at "F") => `(tactic| (try simp only [qAsg, qRet, qDrop, qIfS, qTest, qAndT, qOrT, qNotT, qAndV, qOrV, qNotV, qIf, qOp, qUn, qChain, onB, qv, qc, qgN, qgT, qgCons, qgNil, qCons, qNil, qTup, qLst, qPar, qPar3, qAug, qCB, qCall, qLen, qTupleC, qListC, qMax2, qMin2, qIntC, qSum, qAny, qAll, qIsi, tyName, qAdd, qSub, qMul, qFdiv, qMod, qPow, qI2, qCmpI, qEq, qNe, qLt, qLe, qGt, qGe, qNeg, qIx, qDGet, qDIn, qDPut, qSl, qPart, qNoPart, qNext, qFor, qiRng1, qiRng2, qiZip, qiEnum, qLc, fz, newL, List.getElem?_cons_zero, List.getElem?_cons_succ, List.set_cons_zero, List.set_cons_succ, if_true, if_false, Bool.false_eq_true, ite_true, ite_false, up_same, reduceIte, decide_true, decide_false, true_and, and_true, eqv_int, eqv_bool, eqv_TI, eqv_LI, eqv_TT, eqv_LT, eqv_nilL, eqv_nilT, shaped_TI, shaped_LI, shaped_TT, shaped_LT, shaped_int, shaped_bool, shaped_nilL, shaped_nilT, dints_map2, dbools_map2, datas_map, mkT_map, mkT_0, mkT_1, mkT_2, mkT_3, List.length_map, List.length_cons, List.length_nil, List.length_append, List.map_cons, List.map_nil, wipeD, Bool.not_true, Bool.not_false, eq_self, not_true_eq_false, not_false_eq_true, kitB_tt, kitB_ll, kitB_dd, kitB_bb, kitB_ib, kitB_ii, kitB_ss, kitB_tl, kitB_lt, Function.comp, datas, Option.map_some, List.cons_append, List.nil_append, CPow, le_size4, Int.toNat_natCast, rngD0, I_eq, Bo_eq, BS.qSortB, in_IT, in_IL, in_TT, in_TL, qNotN, qIsN, qSortD, qListRg, qDispT, keyX_TI, qGet, qiItems, qLockE, qLockS, qPop, qMaxDf, qLc2, qMax1, qMin1, qAppend, qExtend, tints_TI, dv_TI, Option.bind_some, qRetN, atI_0, atI_1, atI_2, mk_appT, mk_snocI, idl, rep_I, Option.map_none, qComb, qGcd]))
namespace UC
open PySem L2 DL RD
/-- what may be sorted as a set -/
def OkS (n : Nat) (w : Int) (ts : List (List Int)) : Prop := 1 ≤ n ∧ n ≤ 1000 ∧ ts.length < 4000 ∧ ∀ t ∈ ts, Mon n w t
theorem OkS.q {n : Nat} {w : Int} {ts : List (List Int)} (h : OkS n w ts) : ts.length < 4000 ∧ ∀ t ∈ ts, t ≠ [] := ⟨h.2.2.1, fun t ht e => by
  have h1 := (h.2.2.2 t ht).1
  have h2 := h.1
  rw [e] at h1
  simp at h1
  omega⟩
theorem OkS.len {n : Nat} {w : Int} {ts : List (List Int)} (h : OkS n w ts) : ∀ t ∈ ts, t.length = n := fun t ht => (h.2.2.2 t ht).1
def sp_law_divides : SpD := fun xs st Q => ∃ (a b : List Int) (n : Nat), xs = [.d (TI a), .d (TI b)] ∧ a.length = n ∧ b.length = n ∧ n ≤ 1000 ∧ Q (Bo (divB a b)) st
theorem len_law_divides : ∀ xs st Q, sp_law_divides xs st Q → xs.length = 2 := by rintro xs st Q ⟨a, b, n, rfl, _⟩; rfl
theorem sem_law_divides : ∀ xs st Q, sp_law_divides xs st Q → rd_law_divides { nx := fun _ st' => Fg Q (.d .none) st', rt := Fg Q } (startD 3 xs) st := by
  rintro xs st Q ⟨a, b, n, rfl, ha, hb, hn, K⟩
  have e0 : startD 3 [.d (TI a), .d (TI b)] = [some (.d (TI a)), some (.d (TI b)), none] := rfl
  rw [e0]
  unfold rd_law_divides
  walk_at "D"
  rw [ha]
  refine ⟨by omega, by omega, by rw [List.length_range, sizeL]; omega, ?_⟩
  refine comp_fmT _ (fun j => decide (gd b j < gd a j)) (fun (j : Nat) => I (j : Int)) trivial _ _ ?_ ?_
  · intro j hj Q1 Q2 h
    rw [List.mem_range] at hj
    walk_at "D"
    simp only [atI_gd (show j < a.length by omega), atI_gd (show j < b.length by omega)]
    walk_at "D"
    exact h
  · rw [ints_dv0]
    walk_at "D"
    simp only [List.map_eq_nil_iff]
    rw [← div_none ha hb]
    refine ⟨by decide, fg_ret K⟩
def sp_law_least : SpD := fun xs st Q => ∃ (x : DV) (ts : List (List Int)) (n : Nat) (w : Int), xs = [x] ∧ sitems st x = some ((ts.map TI).map .d) ∧ OkS n w ts ∧ Q (.d (TT (minL ts))) st
theorem len_law_least : ∀ xs st Q, sp_law_least xs st Q → xs.length = 1 := by rintro xs st Q ⟨a, ts, n, w, rfl, _⟩; rfl
theorem sem_law_least : ∀ xs st Q, sp_law_least xs st Q → rd_law_least sp_law_divides { nx := fun _ st' => Fg Q (.d .none) st', rt := Fg Q } (startD 4 xs) st := by
  rintro xs st Q ⟨x, ts, n, w, rfl, hx, ok, K⟩
  have e0 : startD 4 [x] = [some x, none, none, none] := rfl
  rw [e0]
  unfold rd_law_least
  refine seq fun N hN => ?_
  walk_at "F"
  simp only [hx]
  walk_at "D"
  refine ⟨ok.q.1, hN _ _ ?_⟩; clear hN N
  have hl : (sortU ts).length < 4000 := Nat.lt_of_le_of_lt (sortU_len ts) ok.q.1
  have hq : ∀ s ∈ sortU ts, s.length = n := fun s hs => ok.len s (mem_sortU.mp hs)
  walk_at "D"
  refine ⟨size_of (Nat.le_of_lt hl) (by omega), ?_⟩
  rw [List.map_map]
  refine comp_fmT _ (fun a => decide ((sortU ts).filter (fun b => decide (b ≠ a) && divB b a) = [])) (fun a => .d (TI a)) trivial _ _ ?_ ?_
  · intro a ha Q1 Q2 h
    walk_at "D"
    refine ⟨size_of (Nat.le_of_lt hl) (by omega), ?_⟩
    rw [List.map_map]
    refine comp_fmT _ (fun b => decide (b ≠ a) && divB b a) (fun b => .d (TI b)) trivial _ _ ?_ ?_
    · intro b hb Q3 Q4 h2
      walk_at "D"
      by_cases e : b = a
      · simp only [e, decide_true, Bool.not_true]
        simp only [e, ne_eq, not_true_eq_false, decide_false, Bool.false_and] at h2
        exact h2
      · simp only [e, decide_false, Bool.not_false, if_true]
        simp only [ne_eq, e, not_false_eq_true, decide_true, Bool.true_and] at h2
        refine ⟨b, a, n, rfl, hq b hb, hq a ha, ok.2.1, ?_⟩
        walk_at "D"
        exact h2
    · rw [tis_dv0]
      walk_at "D"
      exact ⟨by decide, h⟩
  · rw [tis_dv0]
    walk_at "D"
    exact fg_ret K
def sp_law_monomial : SpD := fun xs st Q => ∃ (a : Addr) (n : Nat) (top : Int) (B : Nat), xs = [.r a, I n, I top] ∧ n ≤ 100 ∧ 0 ≤ top ∧ top < 2 ^ 29 ∧ B + 200 < 2 ^ 50 ∧ DrawSt st a B ∧
  ∀ (v : List Int) st', Mon n top v → DrawSt st' a (B + 200) → (∀ b, b ≠ a → st' b = st b) → Q (.d (TI v)) st'
theorem len_law_monomial : ∀ xs st Q, sp_law_monomial xs st Q → xs.length = 3 := by rintro xs st Q ⟨a, n, w, B, rfl, _⟩; rfl
theorem sem_law_monomial : ∀ xs st Q, sp_law_monomial xs st Q → rd_law_monomial sp_law_draw { nx := fun _ st' => Fg Q (.d .none) st', rt := Fg Q } (startD 4 xs) st := by
  rintro xs st Q ⟨a, n, w, B, rfl, hn, w1, w2, hB, D, K⟩
  have e0 : startD 4 [.r a, I n, I w] = [some (.r a), some (I n), some (I w), none] := rfl
  rw [e0]
  unfold rd_law_monomial
  walk_at "D"
  refine ⟨by omega, by omega, by rw [List.length_range, sizeL]; omega, ?_⟩
  refine comp_wordI _ (fun i acc s => ∃ v : List Int, acc = (v.map .int).map .d ∧ v.length = i ∧ (∀ x ∈ v, 0 ≤ x ∧ x ≤ w) ∧ DrawSt s a (B + 2 * i) ∧ ∀ b, b ≠ a → s b = st b) (fun _ _ _ _ => trivial) _ st ⟨[], rfl, rfl, (by intro x hx; cases hx), D, fun _ _ => rfl⟩ ?_ ?_
  · rintro i p acc s hp ⟨v, rfl, h1, h2, D, fr⟩ Q1 h
    obtain ⟨rfl, hi⟩ := range_some hp
    walk_at "D"
    refine draw D (by omega) (by omega) (by omega) fun d1 s1 l1 u1 D1 fr1 => ?_
    walk_at "D"
    by_cases hd : 0 < d1
    · simp only [hd, decide_true, if_true]
      refine draw D1 (by omega) (by omega) (by omega) fun d2 s2 l2 u2 D2 fr2 => ?_
      refine h _ _ ⟨v ++ [d2], by simp, by simp; omega, ?_, D2.mono (by omega), fun b hb => by rw [fr2 b hb, fr1 b hb, fr b hb]⟩
      intro x hx
      rcases List.mem_append.mp hx with hx | hx
      · exact h2 x hx
      · rw [List.mem_singleton.mp hx]; omega
    · simp only [hd, decide_false]
      walk_at "D"
      refine h _ _ ⟨v ++ [0], by simp, by simp; omega, ?_, D1.mono (by omega), fun b hb => by rw [fr1 b hb, fr b hb]⟩
      intro x hx
      rcases List.mem_append.mp hx with hx | hx
      · exact h2 x hx
      · rw [List.mem_singleton.mp hx]; omega
  · rintro acc s ⟨v, rfl, h1, h2, D, fr⟩
    rw [List.length_range] at h1 D
    walk_at "D"
    exact fg_ret (K v s ⟨h1, h2⟩ (D.mono (by omega)) fr)
/-- the least generators of an ideal -/
def Idl (n : Nat) (w : Int) (cnt : Nat) (L : List (List Int)) : Prop := minL L = L ∧ L.length ≤ cnt ∧ ∀ t ∈ L, Mon n w t
def sp_law_ideal : SpD := fun xs st Q => ∃ (a : Addr) (n cnt : Nat) (top : Int) (B : Nat), xs = [.r a, I n, I cnt, I top] ∧ 1 ≤ n ∧ n ≤ 100 ∧ cnt ≤ 60 ∧ 0 ≤ top ∧ top < 2 ^ 29 ∧ B + 20000 < 2 ^ 50 ∧ DrawSt st a B ∧
  ∀ (L : List (List Int)) st', Idl n top cnt L → (∀ t ∈ L, 0 < t.sum) → DrawSt st' a (B + 20000) → (∀ b, b ≠ a → st' b = st b) → Q (.d (idl n L)) st'
theorem len_law_ideal : ∀ xs st Q, sp_law_ideal xs st Q → xs.length = 4 := by rintro xs st Q ⟨a, n, c, w, B, rfl, _⟩; rfl
theorem sem_law_ideal : ∀ xs st Q, sp_law_ideal xs st Q → rd_law_ideal sp_law_draw sp_law_monomial sp_law_least { nx := fun _ st' => Fg Q (.d .none) st', rt := Fg Q } (startD 7 xs) st := by
  rintro xs st Q ⟨a, n, cnt, top, B, rfl, hn0, hn, hcnt, w1, w2, hB, D, K⟩
  have e0 : startD 7 [.r a, I n, I cnt, I top] = [some (.r a), some (I n), some (I cnt), some (I top), none, none, none] := rfl
  rw [e0]
  unfold rd_law_ideal
  refine seq fun N hN => ?_
  walk_at "D"
  refine draw D (by omega) (by omega) (by omega) fun v s1 l1 u1 D1 fr1 => ?_
  obtain ⟨c, rfl⟩ : ∃ c : Nat, v = (c : Int) := ⟨v.toNat, by omega⟩
  walk_at "D"
  refine ⟨by omega, by omega, by rw [List.length_range, sizeL]; omega, ?_⟩
  refine comp_wordI _ (fun i acc s => ∃ ts : List (List Int), acc = (ts.map TI).map .d ∧ ts.length = i ∧ (∀ t ∈ ts, Mon n top t) ∧ DrawSt s a (B + 1 + 200 * i) ∧ ∀ b, b ≠ a → s b = st b) (fun _ _ _ _ => trivial) _ s1 ⟨[], rfl, rfl, (by intro x hx; cases hx), D1, fr1⟩ ?_ ?_
  · rintro i p acc s hp ⟨ts, rfl, h1, h2, D, fr⟩ Q1 h
    obtain ⟨rfl, hi⟩ := range_some hp
    walk_at "D"
    refine ⟨a, n, top, _, rfl, hn, w1, w2, by omega, D, fun t s2 ht D2 fr2 => ?_⟩
    refine h _ _ ⟨ts ++ [t], by simp, by simp; omega, ?_, D2.mono (by omega), fun b hb => by rw [fr2 b hb, fr b hb]⟩
    intro x hx
    rcases List.mem_append.mp hx with hx | hx
    · exact h2 x hx
    · rw [List.mem_singleton.mp hx]; exact ht
  · rintro acc s ⟨ts, rfl, h1, h2, D, fr⟩
    rw [List.length_range] at h1 D
    walk_at "D"
    refine hN _ _ ?_; clear hN N
    walk_at "D"
    refine ⟨size_of (m := 60) (by omega) (by omega), ?_⟩
    rw [List.map_map]
    refine comp_fmT _ (fun t => decide (0 < t.sum)) (fun t => .d (TI t)) trivial _ _ ?_ ?_
    · intro t ht Q1 Q2 h
      walk_at "D"
      by_cases e : 0 < t.sum
      · simp only [e, decide_true, if_true] at h ⊢
        walk_at "D"
        exact h
      · simp only [e, decide_false] at h ⊢
        walk_at "D"
        exact h
    · rw [tis_dv0]
      walk_at "D"
      have hf : (ts.filter fun t => decide (0 < t.sum)).length ≤ c := Nat.le_trans (List.length_filter_le _ _) (by omega)
      have hm : ∀ t ∈ ts.filter (fun t => decide (0 < t.sum)), Mon n top t := fun t ht => h2 t (List.mem_filter.mp ht).1
      have hle : ∀ t ∈ ts.filter (fun t => decide (0 < t.sum)), t.length = n := fun t ht => (hm t ht).1
      refine ⟨_, ts.filter fun t => decide (0 < t.sum), n, top, rfl, rfl, ⟨hn0, by omega, by omega, hm⟩, ?_⟩
      walk_at "D"
      refine ⟨by decide, fg_ret (K _ s ⟨min_idem hle, Nat.le_trans (min_len _) (by omega), fun t ht => hm t (min_sub t ht)⟩ (fun t ht => of_decide_eq_true (List.mem_filter.mp (min_sub t ht)).2) (D.mono (by omega)) fr)⟩
/-- the program's own -/
def sp_least_ones : SpD := fun xs st Q => ∃ (x : DV) (ts : List (List Int)) (n : Nat) (w : Int), xs = [x] ∧ sitems st x = some ((ts.map TI).map .d) ∧ OkS n w ts ∧
  ∀ p st', st p = none → st' p = some (.lst (((minL ts).map TI).map .d)) → (∀ b, b ≠ p → st' b = st b) → Q (.r p) st'
theorem len_least_ones : ∀ xs st Q, sp_least_ones xs st Q → xs.length = 1 := by rintro xs st Q ⟨a, ts, n, w, rfl, _⟩; rfl
theorem sem_least_ones : ∀ xs st Q, sp_least_ones xs st Q → rd_least_ones sp_divides { nx := fun _ st' => Fg Q (.d .none) st', rt := Fg Q } (startD 4 xs) st := by
  rintro xs st Q ⟨x, ts, n, w, rfl, hx, ok, K⟩
  have e0 : startD 4 [x] = [some x, none, none, none] := rfl
  rw [e0]
  unfold rd_least_ones
  have hl : (sortU ts).length < 4000 := Nat.lt_of_le_of_lt (sortU_len ts) ok.q.1
  have hacc : ∀ i, (((sortU ts).take i).foldl stepL []).length ≤ i := by
    have : ∀ (l acc : List (List Int)), (l.foldl stepL acc).length ≤ acc.length + l.length := by
      intro l
      induction l with
      | nil => exact fun acc => Nat.le_refl _
      | cons m l ih =>
        intro acc
        refine Nat.le_trans (ih (stepL acc m)) ?_
        unfold stepL
        split
        · simp <;> omega
        · simp <;> omega
    intro i
    refine Nat.le_trans (this _ []) ?_
    simp only [List.length_nil, List.length_take]
    omega
  refine seq fun N hN => ?_
  walk_at "D"
  refine ⟨by decide, fun p hp => hN _ _ ?_⟩; clear hN N
  refine seq fun N hN => ?_
  walk_at "F"
  simp only [qiSeq, BS.qSortB, qv, List.getElem?_cons_zero, sitems_le hx (le_up1 hp)]
  walk_at "D"
  refine ⟨ok.q.1, ?_⟩
  rw [List.map_map]
  refine for_byT _ (fun i ε s => ∃ y, ε = [some x, some (.r p), y, none] ∧ s p = some (.lst (((((sortU ts).take i).foldl stepL []).map TI).map .d)) ∧ ∀ b, b ≠ p → s b = st b) ⟨none, rfl, up_same, fun b hb => up_ne hb⟩ (fun _ _ _ _ => trivial) ?_ ?_
  · rintro i m ε s hm ⟨y, rfl, hs, fr⟩ L hL
    walk_at "D"
    simp only [hs]
    walk_at "D"
    have hlen := hacc i
    have hi : i < (sortU ts).length := (List.getElem?_eq_some_iff.mp hm).1
    refine ⟨size_of (m := 4000) (by omega) (by omega), ?_⟩
    rw [List.map_map]
    have hn : (sortU ts).take (i + 1) = (sortU ts).take i ++ [m] := by rw [List.take_succ, hm]; rfl
    generalize hA : ((sortU ts).take i).foldl stepL [] = A at hs hlen ⊢
    refine comp_mapT _ (fun o => Bo (divB o m)) (by rw [← List.map_map]; exact hs) _ _ ?_ ?_
    · intro o ho Q1 h
      walk_at "D"
      exact ⟨o, m, rfl, h⟩
    · have e1 : [] ++ A.map (fun o => Bo (divB o m)) = ((A.map fun o => divB o m).map PyData.bool).map DV.d := by
        rw [List.nil_append, List.map_map, List.map_map]
        rfl
      rw [e1]
      walk_at "D"
      have hstep : ((sortU ts).take (i + 1)).foldl stepL [] = if (A.map fun o => divB o m).any id = true then A else A ++ [m] := by rw [hn, List.foldl_append, hA]; rfl
      cases e : (A.map fun o => divB o m).any id with
      | true =>
        rw [e, if_pos rfl] at hstep
        walk_at "D"
        exact hL _ _ ⟨_, rfl, by rw [hstep]; exact hs, fr⟩
      | false =>
        rw [e, if_neg Bool.false_ne_true] at hstep
        walk_at "D"
        refine ⟨⟨_, hs⟩, _, hs, by simp only [List.length_map, sizeL]; omega, hL _ _ ⟨_, rfl, ?_, fun b hb => by rw [up_ne hb]; exact fr b hb⟩⟩
        rw [up_same, hstep]
        simp
  · rintro ε s ⟨y, rfl, hs, fr⟩
    refine hN _ _ ?_
    walk_at "D"
    rw [List.take_length, fold_min ok.len] at hs
    exact fg_ret (K p s hp hs fr)
theorem foldl_max_le {b : Int} : ∀ (l : List Int) (a : Int), a ≤ b → (∀ x ∈ l, x ≤ b) → l.foldl max a ≤ b
  | [], a, h, _ => h
  | x :: l, a, h, hl => foldl_max_le l (max a x) (by have := hl x List.mem_cons_self; omega) fun y hy => hl y (List.mem_cons_of_mem _ hy)
def sp_law_in : SpD := fun xs st Q => ∃ (L : List (List Int)) (c : List Int) (n : Nat), xs = [.d (TT L), .d (TI c)] ∧ L.length ≤ 1000 ∧ n ≤ 1000 ∧ (∀ g ∈ L, g.length = n) ∧ c.length = n ∧ Q (Bo (inL L c)) st
theorem len_law_in : ∀ xs st Q, sp_law_in xs st Q → xs.length = 2 := by rintro xs st Q ⟨a, b, n, rfl, _⟩; rfl
theorem inL_filter (L : List (List Int)) (c : List Int) : inL L c = !decide (L.filter (fun g => divB g c) = []) := by
  cases h : inL L c with
  | true =>
    obtain ⟨g, h1, h2⟩ := inL_iff.mp h
    rw [decide_eq_false fun e => by rw [List.filter_eq_nil_iff] at e; exact e g h1 h2]
    rfl
  | false =>
    rw [decide_eq_true (List.filter_eq_nil_iff.mpr fun g h1 h2 => by rw [inL_iff.mpr ⟨g, h1, h2⟩] at h; cases h)]
    rfl
theorem sem_law_in : ∀ xs st Q, sp_law_in xs st Q → rd_law_in sp_law_divides { nx := fun _ st' => Fg Q (.d .none) st', rt := Fg Q } (startD 3 xs) st := by
  rintro xs st Q ⟨L, c, n, rfl, hl, hn, hL, hc, K⟩
  have e0 : startD 3 [.d (TT L), .d (TI c)] = [some (.d (TT L)), some (.d (TI c)), none] := rfl
  rw [e0]
  unfold rd_law_in
  walk_at "D"
  refine ⟨size_of hl (by omega), ?_⟩
  rw [List.map_map]
  refine comp_fmT _ (fun g => divB g c) (fun g => .d (TI g)) trivial _ _ ?_ ?_
  · intro g hg Q1 Q2 h
    walk_at "D"
    refine ⟨g, c, n, rfl, hL g hg, hc, hn, ?_⟩
    walk_at "D"
    exact h
  · rw [tis_dv0]
    walk_at "D"
    rw [← inL_filter]
    exact ⟨by decide, fg_ret K⟩
end UC
end
section
set_option Elab.async false
set_option linter.all false
set_option maxRecDepth 100000
set_option maxHeartbeats 1000000
namespace UC
open PySem L2 DL RD
theorem mul_comm {a b : List Int} {n : Nat} (ha : a.length = n) (hb : b.length = n) : mulL a b = mulL b a := by
  unfold mulL
  rw [gd_ext (len_zw ha hb) (len_zw hb ha)]
  intro j hj
  rw [gd_zw ha hb hj, gd_zw hb ha hj]
  omega
theorem mul_zero {n : Nat} {a : List Int} (ha : a.length = n) : mulL a (List.replicate n 0) = a := by
  unfold mulL
  rw [gd_ext (len_zw ha (List.length_replicate ..)) ha]
  intro j hj
  rw [gd_zw ha (List.length_replicate ..) hj, gd_rep hj]
  omega
section
variable {n : Nat} {w : Int} {A B : List (List Int)}
theorem Idl.len {cnt : Nat} (h : Idl n w cnt A) : ∀ a ∈ A, a.length = n := fun a ha => (h.2.2 a ha).1
end
theorem eqv_idl (n m : Int) (X Y : List (List Int)) : PyData.eqv (.tuple [.int n, TT X]) (.tuple [.int m, TT Y]) = (decide (n = m) && decide (X = Y)) := by
  rw [PyData.eqv, PyData.eqvAll, PyData.eqvAll, PyData.eqvAll, eqv_int, eqv_TT, Bool.and_true]
theorem shaped_idl (n : Int) (X : List (List Int)) : SeqAt.shaped (.tuple [.int n, TT X]) = true := (sh_tuple (n := 3) (l := [.int n, TT X]) fun x hx => by
  simp only [List.mem_cons, List.not_mem_nil, or_false] at hx
  rcases hx with rfl | rfl
  · exact sh_int
  · exact sh_TT).mono (by omega) |>.shaped
end UC
end
section
set_option Elab.async false
set_option linter.all false
set_option maxRecDepth 100000
set_option maxHeartbeats 1000000
namespace UC
open PySem L2 DL RD
theorem red_ext {X Y : List (List Int)} {n : Nat} (hX : minL X = X) (hY : minL Y = Y) (lX : ∀ a ∈ X, a.length = n) (lY : ∀ a ∈ Y, a.length = n) (h : ∀ c : List Int, c.length = n → inL X c = inL Y c) : X = Y := by
  rw [← hX, ← hY]
  refine min_cong lX lY (fun s hs => ?_) fun s hs => ?_
  · have := h s (lX s hs)
    rw [inL_iff.mpr ⟨s, hs, divB_refl s⟩] at this
    exact inL_iff.mp this.symm
  · have := h s (lY s hs)
    rw [inL_iff.mpr ⟨s, hs, divB_refl s⟩] at this
    exact inL_iff.mp this
theorem min_ext {S T : List (List Int)} {n : Nat} (lS : ∀ a ∈ S, a.length = n) (lT : ∀ a ∈ T, a.length = n) (h : ∀ c : List Int, c.length = n → (inL (minL S) c = true ↔ inL (minL T) c = true)) : minL S = minL T :=
  red_ext (min_idem lS) (min_idem lT) (fun a ha => lS a (min_sub a ha)) (fun a ha => lT a (min_sub a ha)) fun c hc => Bool.eq_iff_iff.mpr (h c hc)
theorem mul_assoc {a b c : List Int} {n : Nat} (ha : a.length = n) (hb : b.length = n) (hc : c.length = n) : mulL a (mulL b c) = mulL (mulL a b) c := by
  unfold mulL
  rw [gd_ext (len_zw ha (len_zw hb hc)) (len_zw (len_zw ha hb) hc)]
  intro j hj
  rw [gd_zw ha (len_zw hb hc) hj, gd_zw hb hc hj, gd_zw (len_zw ha hb) hc hj, gd_zw ha hb hj]
  omega
section
variable {n : Nat} {w : Int} {A B : List (List Int)}
theorem Idl.mono {c : Nat} {v : Int} {d : Nat} (h : Idl n w c A) (hw : w ≤ v) (hc : c ≤ d) : Idl n v d A := ⟨h.1, Nat.le_trans h.2.1 hc, fun t ht => (h.2.2 t ht).mono hw⟩
end
end UC
end
section
set_option Elab.async false
set_option linter.all false
set_option maxRecDepth 100000
set_option maxHeartbeats 1000000
namespace UC
open PySem L2 DL RD
def NN (n : Nat) (c : List Int) : Prop := c.length = n ∧ ∀ x ∈ c, 0 ≤ x
theorem Mon.nn {n : Nat} {w : Int} {a : List Int} (h : Mon n w a) : NN n a := ⟨h.1, fun x hx => (h.2 x hx).1⟩
theorem NN.at {n : Nat} {c : List Int} (h : NN n c) {j : Nat} (hj : j < n) : 0 ≤ gd c j := h.2 _ (gd_mem (by rw [h.1]; exact hj))
end UC
end
section
set_option Elab.async false
set_option linter.all false
set_option maxRecDepth 100000
set_option maxHeartbeats 1000000
namespace UC
open PySem L2 DL RD
structure Keeps (n : Nat) (h : List Int → List Int) : Prop where
  nn : ∀ a, NN n a → NN n (h a)
  mono : ∀ a b, NN n a → NN n b → divB a b = true → divB (h a) (h b) = true
abbrev NNs (n : Nat) (A : List (List Int)) : Prop := ∀ a ∈ A, NN n a
theorem NNs.len {n : Nat} {A : List (List Int)} (h : NNs n A) : ∀ a ∈ A, a.length = n := fun a ha => (h a ha).1
theorem NNs.map {n : Nat} {A : List (List Int)} {f : List Int → List Int} (kf : Keeps n f) (h : NNs n A) : NNs n (A.map f) := fun a ha => by
  obtain ⟨b, hb, rfl⟩ := List.mem_map.mp ha
  exact kf.nn b (h b hb)
end UC
end
section
set_option Elab.async false
set_option linter.all false
set_option maxRecDepth 100000
set_option maxHeartbeats 1000000
namespace UC
open PySem L2 DL RD
def holdsB (p m : List Int) : Bool := (p.zip m).any fun z => decide (0 < z.1) && decide (z.1 ≤ z.2)
theorem holds_iff {p m : List Int} {n : Nat} (hp : p.length = n) (hm : m.length = n) : holdsB p m = true ↔ ∃ j < n, 0 < gd p j ∧ gd p j ≤ gd m j := by
  unfold holdsB
  rw [zip_range hp hm, List.any_eq_true]
  constructor
  · rintro ⟨x, hx, h⟩
    obtain ⟨j, hj, rfl⟩ := List.mem_map.mp hx
    simp only [Bool.and_eq_true, decide_eq_true_eq] at h
    exact ⟨j, List.mem_range.mp hj, h⟩
  · rintro ⟨j, hj, h1, h2⟩
    exact ⟨_, List.mem_map.mpr ⟨j, List.mem_range.mpr hj, rfl⟩, by simp only [Bool.and_eq_true, decide_eq_true_eq]; exact ⟨h1, h2⟩⟩
/-- the power of one variable -/
def powL (n : Nat) (i : Nat) (e : Int) : List Int := (List.range n).map fun k => if k = i then e else 0
theorem len_powL {n i : Nat} {e : Int} : (powL n i e).length = n := by unfold powL; rw [List.length_map, List.length_range]
theorem gd_powL {n i k : Nat} {e : Int} (hk : k < n) : gd (powL n i e) k = if k = i then e else 0 := by
  rw [← gd_eq (by rw [len_powL]; exact hk)]
  unfold powL
  rw [List.getElem_map, List.getElem_range]
def powersL (p : List Int) : List (List Int) := (p.zipIdx.filter fun z => decide (0 < z.1)).map fun z => powL p.length z.2 z.1
theorem mem_powersL {p x : List Int} {n : Nat} (hp : p.length = n) : x ∈ powersL p ↔ ∃ j < n, 0 < gd p j ∧ x = powL n j (gd p j) := by
  unfold powersL
  rw [zipIdx_range, hp]
  simp only [List.mem_map, List.mem_filter, List.mem_range, decide_eq_true_eq]
  constructor
  · rintro ⟨z, ⟨⟨j, hj, rfl⟩, h⟩, rfl⟩
    exact ⟨j, hj, h, rfl⟩
  · rintro ⟨j, hj, h, rfl⟩
    exact ⟨_, ⟨⟨j, hj, rfl⟩, h⟩, rfl⟩
/-- the first one's ideal contains the other's -/
def aroundB (p q : List Int) : Bool := (powersL q).all fun x => holdsB p x
theorem around_iff {p q : List Int} {n : Nat} (hp : p.length = n) (hq : q.length = n) : aroundB p q = true ↔ ∀ j < n, 0 < gd q j → 0 < gd p j ∧ gd p j ≤ gd q j := by
  unfold aroundB
  rw [List.all_eq_true]
  constructor
  · intro h j hj h0
    obtain ⟨i, hi, h1, h2⟩ := (holds_iff hp len_powL).mp (h _ ((mem_powersL hq).mpr ⟨j, hj, h0, rfl⟩))
    rw [gd_powL hi] at h2
    by_cases e : i = j
    · subst e
      rw [if_pos rfl] at h2
      exact ⟨h1, h2⟩
    · rw [if_neg e] at h2
      omega
  · intro h x hx
    obtain ⟨j, hj, h0, rfl⟩ := (mem_powersL hq).mp hx
    obtain ⟨h1, h2⟩ := h j hj h0
    exact (holds_iff hp len_powL).mpr ⟨j, hj, h1, by rw [gd_powL hj, if_pos rfl]; exact h2⟩
theorem around_trans {p q r : List Int} {n : Nat} (hp : p.length = n) (hq : q.length = n) (hr : r.length = n) (h1 : aroundB p q = true) (h2 : aroundB q r = true) : aroundB p r = true :=
  (around_iff hp hr).mpr fun j hj h => by
    obtain ⟨a, b⟩ := (around_iff hq hr).mp h2 j hj h
    obtain ⟨c, d⟩ := (around_iff hp hq).mp h1 j hj a
    exact ⟨c, by omega⟩
theorem around_anti {p q : List Int} {n : Nat} (hp : NN n p) (hq : NN n q) (h1 : aroundB p q = true) (h2 : aroundB q p = true) : p = q :=
  (gd_ext hp.1 hq.1).mpr fun j hj => by
    have a := (around_iff hp.1 hq.1).mp h1 j hj
    have b := (around_iff hq.1 hp.1).mp h2 j hj
    have := hp.at hj
    have := hq.at hj
    by_cases c : 0 < gd q j
    · have := (a c)
      have := b this.1
      omega
    · by_cases d : 0 < gd p j
      · have := b d
        omega
      · omega
/-- what the components of the ideal of some generators are -/
structure Comp (n : Nat) (G L : List (List Int)) : Prop where
  nn : NNs n L
  up : ∀ p ∈ L, ∀ g ∈ G, holdsB p g = true
  all : ∀ q, NN n q → (∀ g ∈ G, holdsB q g = true) → ∃ p ∈ L, aroundB q p = true
  anti : ∀ p ∈ L, ∀ q ∈ L, aroundB p q = true → p = q
theorem Comp.same {n : Nat} {G L M : List (List Int)} (a : Comp n G L) (b : Comp n G M) : ∀ x, x ∈ L ↔ x ∈ M := by
  have key : ∀ {L M : List (List Int)}, Comp n G L → Comp n G M → ∀ x ∈ L, x ∈ M := fun {L M} a b x hx => by
    obtain ⟨p, hp, h1⟩ := b.all x (a.nn x hx) (a.up x hx)
    obtain ⟨q, hq, h2⟩ := a.all p (b.nn p hp) (b.up p hp)
    have nx := a.nn x hx
    have np := b.nn p hp
    have e := a.anti x hx q hq (around_trans nx.1 np.1 (a.nn q hq).1 h1 h2)
    subst e
    rw [around_anti nx np h1 h2]
    exact hp
  exact fun x => ⟨key a b x, key b a x⟩
theorem foldl_max_ge : ∀ (l : List Int) (a : Int), a ≤ l.foldl max a ∧ ∀ x ∈ l, x ≤ l.foldl max a
  | [], a => ⟨Int.le_refl _, fun x hx => nomatch hx⟩
  | y :: l, a => by
    obtain ⟨h1, h2⟩ := foldl_max_ge l (max a y)
    refine ⟨?_, fun x hx => ?_⟩
    · rw [List.foldl_cons]; omega
    · rw [List.foldl_cons]
      rcases List.mem_cons.mp hx with rfl | hx
      · omega
      · exact h2 x hx
end UC
end
section
set_option Elab.async false
set_option linter.all false
set_option maxRecDepth 100000
set_option maxHeartbeats 1000000
namespace UC
open PySem L2 DL RD
theorem ris_nodup {L : List (List Int)} (h : RisL L) : L.Nodup := List.Pairwise.imp (fun h e => by rw [e, lexL_irr] at h; cases h) h
theorem nn_of_gd {n : Nat} {a : List Int} (h : a.length = n) (k : ∀ j < n, 0 ≤ gd a j) : NN n a := ⟨h, fun x hx => by
  obtain ⟨j, hj, rfl⟩ := List.mem_iff_getElem.mp hx
  rw [gd_eq hj]
  exact k j (by omega)⟩
def addA (K : List (List Int)) (a : List Int) : List (List Int) := if a ∈ K then K else K ++ [a]
def stepF (K : List (List Int)) (g : List Int) : List (List Int) := (K.map fun m => lcmL m g).foldl addA K
end UC
end
section
set_option Elab.async false
set_option linter.all false
set_option maxRecDepth 100000
set_option maxHeartbeats 1000000
open PySem L2 DL RD UC
local macro_rules | `(tactic| walk_at "E") => `(tactic| (try simp only [qAsg, qRet, qDrop, qIfS, qTest, qAndT, qOrT, qNotT, qAndV, qOrV, qNotV, qIf, qOp, qUn, qChain, onB, qv, qc, qgN, qgT, qgCons, qgNil, qCons, qNil, qTup, qLst, qPar, qPar3, qAug, qCB, qCall, qLen, qTupleC, qListC, qMax2, qMin2, qIntC, qSum, qAny, qAll, qIsi, tyName, qAdd, qSub, qMul, qFdiv, qMod, qPow, qI2, qCmpI, qEq, qNe, qLt, qLe, qGt, qGe, qNeg, qIx, qDGet, qDIn, qDPut, qSl, qPart, qNoPart, qNext, qFor, qiSeq, qiRng1, qiRng2, qiZip, qiEnum, qLc, seqSrc, lsrc, titems, litems, sitems, fz, newL, List.getElem?_cons_zero, List.getElem?_cons_succ, List.set_cons_zero, List.set_cons_succ, if_true, if_false, Bool.false_eq_true, ite_true, ite_false, up_same, reduceIte, decide_true, decide_false, true_and, and_true]))
local macro_rules | `(tactic| walk_at "D") => `(tactic| (try simp only [qAsg, qRet, qDrop, qIfS, qTest, qAndT, qOrT, qNotT, qAndV, qOrV, qNotV, qIf, qOp, qUn, qChain, onB, qv, qc, qgN, qgT, qgCons, qgNil, qCons, qNil, qTup, qLst, qPar, qPar3, qAug, qCB, qCall, qLen, qTupleC, qListC, qMax2, qMin2, qIntC, qSum, qAny, qAll, qIsi, tyName, qAdd, qSub, qMul, qFdiv, qMod, qPow, qI2, qCmpI, qEq, qNe, qLt, qLe, qGt, qGe, qNeg, qIx, qDGet, qDIn, qDPut, qSl, qPart, qNoPart, qNext, qFor, qiSeq, qiRng1, qiRng2, qiZip, qiEnum, qLc, seqSrc, lsrc, titems, litems, sitems, fz, newL, List.getElem?_cons_zero, List.getElem?_cons_succ, List.set_cons_zero, List.set_cons_succ, if_true, if_false, Bool.false_eq_true, ite_true, ite_false, up_same, reduceIte, decide_true, decide_false, true_and, and_true, eqv_int, eqv_bool, eqv_TI, eqv_LI, eqv_TT, eqv_LT, eqv_nilL, eqv_nilT, shaped_TI, shaped_LI, shaped_TT, shaped_LT, shaped_int, shaped_bool, shaped_nilL, shaped_nilT, dints_map2, dbools_map2, datas_map, mkT_map, mkT_0, mkT_1, mkT_2, mkT_3, List.length_map, List.length_cons, List.length_nil, List.length_append, List.map_cons, List.map_nil, wipeD, Bool.not_true, Bool.not_false, eq_self, not_true_eq_false, not_false_eq_true, kitB_tt, kitB_ll, kitB_dd, kitB_bb, kitB_ib, kitB_ii, kitB_ss, kitB_tl, kitB_lt, Function.comp, datas, Option.map_some, List.cons_append, List.nil_append, CPow, le_size4, Int.toNat_natCast, rngD0, I_eq, Bo_eq, BS.qSortB, in_IT, in_IL, in_TT, in_TL, qNotN, qIsN, qSortD, qListRg, qDispT, keyX_TI, qGet, qiItems, qLockE, qLockS, qPop, qMaxDf, qLc2, qMax1, qMin1, qAppend, qExtend, tints_TI, dv_TI, Option.bind_some, qRetN, atI_0, atI_1, atI_2, mk_appT, mk_snocI, idl, rep_I, Option.map_none, eqv_idl, shaped_idl, Bool.and_self, Bool.true_and, Bool.and_true]))
local macro_rules | `(tactic| walk_at "F") => `(tactic| (try simp only [qAsg, qRet, qDrop, qIfS, qTest, qAndT, qOrT, qNotT, qAndV, qOrV, qNotV, qIf, qOp, qUn, qChain, onB, qv, qc, qgN, qgT, qgCons, qgNil, qCons, qNil, qTup, qLst, qPar, qPar3, qAug, qCB, qCall, qLen, qTupleC, qListC, qMax2, qMin2, qIntC, qSum, qAny, qAll, qIsi, tyName, qAdd, qSub, qMul, qFdiv, qMod, qPow, qI2, qCmpI, qEq, qNe, qLt, qLe, qGt, qGe, qNeg, qIx, qDGet, qDIn, qDPut, qSl, qPart, qNoPart, qNext, qFor, qiRng1, qiRng2, qiZip, qiEnum, qLc, fz, newL, List.getElem?_cons_zero, List.getElem?_cons_succ, List.set_cons_zero, List.set_cons_succ, if_true, if_false, Bool.false_eq_true, ite_true, ite_false, up_same, reduceIte, decide_true, decide_false, true_and, and_true, eqv_int, eqv_bool, eqv_TI, eqv_LI, eqv_TT, eqv_LT, eqv_nilL, eqv_nilT, shaped_TI, shaped_LI, shaped_TT, shaped_LT, shaped_int, shaped_bool, shaped_nilL, shaped_nilT, dints_map2, dbools_map2, datas_map, mkT_map, mkT_0, mkT_1, mkT_2, mkT_3, List.length_map, List.length_cons, List.length_nil, List.length_append, List.map_cons, List.map_nil, wipeD, Bool.not_true, Bool.not_false, eq_self, not_true_eq_false, not_false_eq_true, kitB_tt, kitB_ll, kitB_dd, kitB_bb, kitB_ib, kitB_ii, kitB_ss, kitB_tl, kitB_lt, Function.comp, datas, Option.map_some, List.cons_append, List.nil_append, CPow, le_size4, Int.toNat_natCast, rngD0, I_eq, Bo_eq, BS.qSortB, in_IT, in_IL, in_TT, in_TL, qNotN, qIsN, qSortD, qListRg, qDispT, keyX_TI, qGet, qiItems, qLockE, qLockS, qPop, qMaxDf, qLc2, qMax1, qMin1, qAppend, qExtend, tints_TI, dv_TI, Option.bind_some, qRetN, atI_0, atI_1, atI_2, mk_appT, mk_snocI, idl, rep_I, Option.map_none, eqv_idl, shaped_idl, Bool.and_self, Bool.true_and, Bool.and_true]))
namespace UC
open PySem L2 DL RD
end UC
end
section
set_option Elab.async false
set_option linter.all false
set_option maxRecDepth 100000
set_option maxHeartbeats 1000000
open PySem L2 DL RD UC
local macro_rules | `(tactic| walk_at "E") => `(tactic| (try simp only [qAsg, qRet, qDrop, qIfS, qTest, qAndT, qOrT, qNotT, qAndV, qOrV, qNotV, qIf, qOp, qUn, qChain, onB, qv, qc, qgN, qgT, qgCons, qgNil, qCons, qNil, qTup, qLst, qPar, qPar3, qAug, qCB, qCall, qLen, qTupleC, qListC, qMax2, qMin2, qIntC, qSum, qAny, qAll, qIsi, tyName, qAdd, qSub, qMul, qFdiv, qMod, qPow, qI2, qCmpI, qEq, qNe, qLt, qLe, qGt, qGe, qNeg, qIx, qDGet, qDIn, qDPut, qSl, qPart, qNoPart, qNext, qFor, qiSeq, qiRng1, qiRng2, qiZip, qiEnum, qLc, seqSrc, lsrc, titems, litems, sitems, fz, newL, List.getElem?_cons_zero, List.getElem?_cons_succ, List.set_cons_zero, List.set_cons_succ, if_true, if_false, Bool.false_eq_true, ite_true, ite_false, up_same, reduceIte, decide_true, decide_false, true_and, and_true]))
local macro_rules | `(tactic| walk_at "D") => `(tactic| (try simp only [qAsg, qRet, qDrop, qIfS, qTest, qAndT, qOrT, qNotT, qAndV, qOrV, qNotV, qIf, qOp, qUn, qChain, onB, qv, qc, qgN, qgT, qgCons, qgNil, qCons, qNil, qTup, qLst, qPar, qPar3, qAug, qCB, qCall, qLen, qTupleC, qListC, qMax2, qMin2, qIntC, qSum, qAny, qAll, qIsi, tyName, qAdd, qSub, qMul, qFdiv, qMod, qPow, qI2, qCmpI, qEq, qNe, qLt, qLe, qGt, qGe, qNeg, qIx, qDGet, qDIn, qDPut, qSl, qPart, qNoPart, qNext, qFor, qiSeq, qiRng1, qiRng2, qiZip, qiEnum, qLc, seqSrc, lsrc, titems, litems, sitems, fz, newL, List.getElem?_cons_zero, List.getElem?_cons_succ, List.set_cons_zero, List.set_cons_succ, if_true, if_false, Bool.false_eq_true, ite_true, ite_false, up_same, reduceIte, decide_true, decide_false, true_and, and_true, eqv_int, eqv_bool, eqv_TI, eqv_LI, eqv_TT, eqv_LT, eqv_nilL, eqv_nilT, shaped_TI, shaped_LI, shaped_TT, shaped_LT, shaped_int, shaped_bool, shaped_nilL, shaped_nilT, dints_map2, dbools_map2, datas_map, mkT_map, mkT_0, mkT_1, mkT_2, mkT_3, List.length_map, List.length_cons, List.length_nil, List.length_append, List.map_cons, List.map_nil, wipeD, Bool.not_true, Bool.not_false, eq_self, not_true_eq_false, not_false_eq_true, kitB_tt, kitB_ll, kitB_dd, kitB_bb, kitB_ib, kitB_ii, kitB_ss, kitB_tl, kitB_lt, Function.comp, datas, Option.map_some, List.cons_append, List.nil_append, CPow, le_size4, Int.toNat_natCast, rngD0, I_eq, Bo_eq, BS.qSortB, in_IT, in_IL, in_TT, in_TL, qNotN, qIsN, qSortD, qListRg, qDispT, keyX_TI, qGet, qiItems, qLockE, qLockS, qPop, qMaxDf, qLc2, qMax1, qMin1, qAppend, qExtend, tints_TI, dv_TI, Option.bind_some, qRetN, atI_0, atI_1, atI_2, mk_appT, mk_snocI, idl, rep_I, Option.map_none, eqv_idl, shaped_idl, Bool.and_self, Bool.true_and, Bool.and_true]))
local macro_rules | `(tactic| walk_at "F") => `(tactic| (try simp only [qAsg, qRet, qDrop, qIfS, qTest, qAndT, qOrT, qNotT, qAndV, qOrV, qNotV, qIf, qOp, qUn, qChain, onB, qv, qc, qgN, qgT, qgCons, qgNil, qCons, qNil, qTup, qLst, qPar, qPar3, qAug, qCB, qCall, qLen, qTupleC, qListC, qMax2, qMin2, qIntC, qSum, qAny, qAll, qIsi, tyName, qAdd, qSub, qMul, qFdiv, qMod, qPow, qI2, qCmpI, qEq, qNe, qLt, qLe, qGt, qGe, qNeg, qIx, qDGet, qDIn, qDPut, qSl, qPart, qNoPart, qNext, qFor, qiRng1, qiRng2, qiZip, qiEnum, qLc, fz, newL, List.getElem?_cons_zero, List.getElem?_cons_succ, List.set_cons_zero, List.set_cons_succ, if_true, if_false, Bool.false_eq_true, ite_true, ite_false, up_same, reduceIte, decide_true, decide_false, true_and, and_true, eqv_int, eqv_bool, eqv_TI, eqv_LI, eqv_TT, eqv_LT, eqv_nilL, eqv_nilT, shaped_TI, shaped_LI, shaped_TT, shaped_LT, shaped_int, shaped_bool, shaped_nilL, shaped_nilT, dints_map2, dbools_map2, datas_map, mkT_map, mkT_0, mkT_1, mkT_2, mkT_3, List.length_map, List.length_cons, List.length_nil, List.length_append, List.map_cons, List.map_nil, wipeD, Bool.not_true, Bool.not_false, eq_self, not_true_eq_false, not_false_eq_true, kitB_tt, kitB_ll, kitB_dd, kitB_bb, kitB_ib, kitB_ii, kitB_ss, kitB_tl, kitB_lt, Function.comp, datas, Option.map_some, List.cons_append, List.nil_append, CPow, le_size4, Int.toNat_natCast, rngD0, I_eq, Bo_eq, BS.qSortB, in_IT, in_IL, in_TT, in_TL, qNotN, qIsN, qSortD, qListRg, qDispT, keyX_TI, qGet, qiItems, qLockE, qLockS, qPop, qMaxDf, qLc2, qMax1, qMin1, qAppend, qExtend, tints_TI, dv_TI, Option.bind_some, qRetN, atI_0, atI_1, atI_2, mk_appT, mk_snocI, idl, rep_I, Option.map_none, eqv_idl, shaped_idl, Bool.and_self, Bool.true_and, Bool.and_true]))
namespace UC
open PySem L2 DL RD
def codeN (w : Nat) : List Int → Nat
  | [] => 0
  | x :: r => x.toNat + (w + 1) * codeN w r
theorem codeN_lt {w : Nat} : ∀ {a : List Int}, (∀ x ∈ a, 0 ≤ x ∧ x ≤ w) → codeN w a < (w + 1) ^ a.length
  | [], _ => by simp [codeN]
  | x :: r, h => by
    have h1 := h x List.mem_cons_self
    have h2 := codeN_lt (w := w) (a := r) fun y hy => h y (List.mem_cons_of_mem _ hy)
    rw [codeN, List.length_cons, Nat.pow_succ, Nat.mul_comm _ (w + 1)]
    have : (w + 1) * (codeN w r + 1) ≤ (w + 1) * (w + 1) ^ r.length := Nat.mul_le_mul_left _ h2
    rw [Nat.mul_add] at this
    omega
theorem codeN_inj {w : Nat} : ∀ {a b : List Int}, a.length = b.length → (∀ x ∈ a, 0 ≤ x ∧ x ≤ w) → (∀ x ∈ b, 0 ≤ x ∧ x ≤ w) → codeN w a = codeN w b → a = b
  | [], [], _, _, _, _ => rfl
  | x :: a, y :: b, hl, ha, hb, h => by
    have h1 := ha x List.mem_cons_self
    have h2 := hb y List.mem_cons_self
    simp only [codeN] at h
    have e : x.toNat = y.toNat := by
      have := congrArg (· % (w + 1)) h
      simp only [Nat.add_mul_mod_self_left] at this
      rw [Nat.mod_eq_of_lt (by omega), Nat.mod_eq_of_lt (by omega)] at this
      exact this
    have e2 : codeN w a = codeN w b := by
      rw [e] at h
      exact Nat.eq_of_mul_eq_mul_left (by omega) (Nat.add_left_cancel h)
    rw [codeN_inj (by simpa using hl) (fun z hz => ha z (List.mem_cons_of_mem _ hz)) (fun z hz => hb z (List.mem_cons_of_mem _ hz)) e2, show x = y by omega]
theorem nodup_count {L : List (List Int)} {n w : Nat} (nd : L.Nodup) (h : ∀ a ∈ L, Mon n w a) : L.length ≤ (w + 1) ^ n := by
  have nf : (L.map (codeN w)).Nodup := List.pairwise_map.mpr (List.Pairwise.imp_of_mem (fun {a b} ha hb hne e => hne (codeN_inj ((h a ha).1.trans (h b hb).1.symm) (h a ha).2 (h b hb).2 e)) nd)
  have := L2.nat_nodup_len (L.map (codeN w)) (List.range ((w + 1) ^ n)) nf fun x hx => by
    obtain ⟨a, ha, rfl⟩ := List.mem_map.mp hx
    have := codeN_lt (h a ha).2
    rw [(h a ha).1] at this
    exact List.mem_range.mpr this
  rw [List.length_map, List.length_range] at this
  exact this
end UC
end
section
set_option Elab.async false
set_option linter.all false
set_option maxRecDepth 100000
set_option maxHeartbeats 1000000
open PySem L2 DL RD UC
local macro_rules | `(tactic| walk_at "E") => `(tactic| (try simp only [qAsg, qRet, qDrop, qIfS, qTest, qAndT, qOrT, qNotT, qAndV, qOrV, qNotV, qIf, qOp, qUn, qChain, onB, qv, qc, qgN, qgT, qgCons, qgNil, qCons, qNil, qTup, qLst, qPar, qPar3, qAug, qCB, qCall, qLen, qTupleC, qListC, qMax2, qMin2, qIntC, qSum, qAny, qAll, qIsi, tyName, qAdd, qSub, qMul, qFdiv, qMod, qPow, qI2, qCmpI, qEq, qNe, qLt, qLe, qGt, qGe, qNeg, qIx, qDGet, qDIn, qDPut, qSl, qPart, qNoPart, qNext, qFor, qiSeq, qiRng1, qiRng2, qiZip, qiEnum, qLc, seqSrc, lsrc, titems, litems, sitems, fz, newL, List.getElem?_cons_zero, List.getElem?_cons_succ, List.set_cons_zero, List.set_cons_succ, if_true, if_false, Bool.false_eq_true, ite_true, ite_false, up_same, reduceIte, decide_true, decide_false, true_and, and_true]))
local macro_rules | `(tactic| walk_at "D") => `(tactic| (try simp only [qAsg, qRet, qDrop, qIfS, qTest, qAndT, qOrT, qNotT, qAndV, qOrV, qNotV, qIf, qOp, qUn, qChain, onB, qv, qc, qgN, qgT, qgCons, qgNil, qCons, qNil, qTup, qLst, qPar, qPar3, qAug, qCB, qCall, qLen, qTupleC, qListC, qMax2, qMin2, qIntC, qSum, qAny, qAll, qIsi, tyName, qAdd, qSub, qMul, qFdiv, qMod, qPow, qI2, qCmpI, qEq, qNe, qLt, qLe, qGt, qGe, qNeg, qIx, qDGet, qDIn, qDPut, qSl, qPart, qNoPart, qNext, qFor, qiSeq, qiRng1, qiRng2, qiZip, qiEnum, qLc, seqSrc, lsrc, titems, litems, sitems, fz, newL, List.getElem?_cons_zero, List.getElem?_cons_succ, List.set_cons_zero, List.set_cons_succ, if_true, if_false, Bool.false_eq_true, ite_true, ite_false, up_same, reduceIte, decide_true, decide_false, true_and, and_true, eqv_int, eqv_bool, eqv_TI, eqv_LI, eqv_TT, eqv_LT, eqv_nilL, eqv_nilT, shaped_TI, shaped_LI, shaped_TT, shaped_LT, shaped_int, shaped_bool, shaped_nilL, shaped_nilT, dints_map2, dbools_map2, datas_map, mkT_map, mkT_0, mkT_1, mkT_2, mkT_3, List.length_map, List.length_cons, List.length_nil, List.length_append, List.map_cons, List.map_nil, wipeD, Bool.not_true, Bool.not_false, eq_self, not_true_eq_false, not_false_eq_true, kitB_tt, kitB_ll, kitB_dd, kitB_bb, kitB_ib, kitB_ii, kitB_ss, kitB_tl, kitB_lt, Function.comp, datas, Option.map_some, List.cons_append, List.nil_append, CPow, le_size4, Int.toNat_natCast, rngD0, I_eq, Bo_eq, BS.qSortB, in_IT, in_IL, in_TT, in_TL, qNotN, qIsN, qSortD, qListRg, qDispT, keyX_TI, qGet, qiItems, qLockE, qLockS, qPop, qMaxDf, qLc2, qMax1, qMin1, qAppend, qExtend, tints_TI, dv_TI, Option.bind_some, qRetN, atI_0, atI_1, atI_2, mk_appT, mk_snocI, idl, rep_I, Option.map_none, eqv_idl, shaped_idl, Bool.and_self, Bool.true_and, Bool.and_true]))
local macro_rules | `(tactic| walk_at "F") => `(tactic| (try simp only [qAsg, qRet, qDrop, qIfS, qTest, qAndT, qOrT, qNotT, qAndV, qOrV, qNotV, qIf, qOp, qUn, qChain, onB, qv, qc, qgN, qgT, qgCons, qgNil, qCons, qNil, qTup, qLst, qPar, qPar3, qAug, qCB, qCall, qLen, qTupleC, qListC, qMax2, qMin2, qIntC, qSum, qAny, qAll, qIsi, tyName, qAdd, qSub, qMul, qFdiv, qMod, qPow, qI2, qCmpI, qEq, qNe, qLt, qLe, qGt, qGe, qNeg, qIx, qDGet, qDIn, qDPut, qSl, qPart, qNoPart, qNext, qFor, qiRng1, qiRng2, qiZip, qiEnum, qLc, fz, newL, List.getElem?_cons_zero, List.getElem?_cons_succ, List.set_cons_zero, List.set_cons_succ, if_true, if_false, Bool.false_eq_true, ite_true, ite_false, up_same, reduceIte, decide_true, decide_false, true_and, and_true, eqv_int, eqv_bool, eqv_TI, eqv_LI, eqv_TT, eqv_LT, eqv_nilL, eqv_nilT, shaped_TI, shaped_LI, shaped_TT, shaped_LT, shaped_int, shaped_bool, shaped_nilL, shaped_nilT, dints_map2, dbools_map2, datas_map, mkT_map, mkT_0, mkT_1, mkT_2, mkT_3, List.length_map, List.length_cons, List.length_nil, List.length_append, List.map_cons, List.map_nil, wipeD, Bool.not_true, Bool.not_false, eq_self, not_true_eq_false, not_false_eq_true, kitB_tt, kitB_ll, kitB_dd, kitB_bb, kitB_ib, kitB_ii, kitB_ss, kitB_tl, kitB_lt, Function.comp, datas, Option.map_some, List.cons_append, List.nil_append, CPow, le_size4, Int.toNat_natCast, rngD0, I_eq, Bo_eq, BS.qSortB, in_IT, in_IL, in_TT, in_TL, qNotN, qIsN, qSortD, qListRg, qDispT, keyX_TI, qGet, qiItems, qLockE, qLockS, qPop, qMaxDf, qLc2, qMax1, qMin1, qAppend, qExtend, tints_TI, dv_TI, Option.bind_some, qRetN, atI_0, atI_1, atI_2, mk_appT, mk_snocI, idl, rep_I, Option.map_none, eqv_idl, shaped_idl, Bool.and_self, Bool.true_and, Bool.and_true]))
namespace UC
open PySem L2 DL RD
end UC
end
section
set_option Elab.async false
set_option linter.all false
set_option maxRecDepth 100000
set_option maxHeartbeats 1000000
namespace UC
open PySem L2 DL RD
theorem nodup_map_of {α β : Type} {f : α → β} {l : List α} (nd : l.Nodup) (h : ∀ a ∈ l, ∀ b ∈ l, f a = f b → a = b) : (l.map f).Nodup :=
  List.pairwise_map.mpr (List.Pairwise.imp_of_mem (fun {a b} ha hb hne e => hne (h a ha b hb e)) nd)
/-- those below a monomial, exponent by exponent -/
def Bel (n : Nat) (c a : List Int) : Prop := a.length = n ∧ ∀ j < n, 0 ≤ gd a j ∧ gd a j ≤ gd c j
theorem Bel.nn {n : Nat} {c a : List Int} (h : Bel n c a) : NN n a := nn_of_gd h.1 fun j hj => (h.2 j hj).1
theorem min_anti {S : List (List Int)} (h : ∀ s ∈ S, ∀ t ∈ S, divB s t = true → s = t) : minL S = sortU S := by
  unfold minL
  rw [List.filter_eq_self]
  intro a ha
  rw [decide_eq_true_eq, List.filter_eq_nil_iff]
  intro b hb hh
  simp only [Bool.and_eq_true, decide_eq_true_eq] at hh
  exact hh.1 (h b (mem_sortU.mp hb) a (mem_sortU.mp ha) hh.2)
theorem anti_lenN {X : List (List Int)} {n w : Nat} (h1 : 1 ≤ n) (hX : minL X = X) (hm : ∀ a ∈ X, Mon n w a) : X.length ≤ (w + 1) ^ (n - 1) := by
  have lX : ∀ a ∈ X, a.length = n := fun a ha => (hm a ha).1
  have M := mins_minL lX
  rw [hX] at M
  have nd : (X.map fun p => p.take (n - 1)).Nodup := nodup_map_of (ris_nodup M.ris) fun p hp q hq e => by
    have lp := lX p hp
    have lq := lX q hq
    have eg : ∀ j < n - 1, gd p j = gd q j := fun j hj => by
      have := congrArg (fun z => gd z j) e
      unfold gd at this ⊢
      simp only [List.getD_eq_getElem?_getD, List.getElem?_take_of_lt hj] at this
      rw [List.getD_eq_getElem?_getD, List.getD_eq_getElem?_getD]
      exact this
    by_cases h : gd p (n - 1) ≤ gd q (n - 1)
    · refine M.anti p hp q hq ((divB_iff lp lq).mpr fun j hj => ?_)
      by_cases z : j < n - 1
      · rw [eg j z]; exact Int.le_refl _
      · have : j = n - 1 := by omega
        subst this
        exact h
    · refine (M.anti q hq p hp ((divB_iff lq lp).mpr fun j hj => ?_)).symm
      by_cases z : j < n - 1
      · rw [eg j z]; exact Int.le_refl _
      · have : j = n - 1 := by omega
        subst this
        omega
  have := nodup_count (n := n - 1) (w := w) nd fun a ha => by
    obtain ⟨p, hp, rfl⟩ := List.mem_map.mp ha
    refine ⟨by rw [List.length_take, lX p hp]; omega, fun x hx => (hm p hp).2 x (List.mem_of_mem_take hx)⟩
  rw [List.length_map] at this
  exact this
end UC
end
section
set_option Elab.async false
set_option linter.all false
set_option maxRecDepth 100000
set_option maxHeartbeats 1000000
namespace UC
open PySem L2 DL RD
end UC
end
section
set_option Elab.async false
set_option linter.all false
set_option maxRecDepth 100000
set_option maxHeartbeats 1000000
open PySem L2 DL RD UC
local macro_rules | `(tactic| walk_at "E") => `(tactic| (try simp only [qAsg, qRet, qDrop, qIfS, qTest, qAndT, qOrT, qNotT, qAndV, qOrV, qNotV, qIf, qOp, qUn, qChain, onB, qv, qc, qgN, qgT, qgCons, qgNil, qCons, qNil, qTup, qLst, qPar, qPar3, qAug, qCB, qCall, qLen, qTupleC, qListC, qMax2, qMin2, qIntC, qSum, qAny, qAll, qIsi, tyName, qAdd, qSub, qMul, qFdiv, qMod, qPow, qI2, qCmpI, qEq, qNe, qLt, qLe, qGt, qGe, qNeg, qIx, qDGet, qDIn, qDPut, qSl, qPart, qNoPart, qNext, qFor, qiSeq, qiRng1, qiRng2, qiZip, qiEnum, qLc, seqSrc, lsrc, titems, litems, sitems, fz, newL, List.getElem?_cons_zero, List.getElem?_cons_succ, List.set_cons_zero, List.set_cons_succ, if_true, if_false, Bool.false_eq_true, ite_true, ite_false, up_same, reduceIte, decide_true, decide_false, true_and, and_true]))
local macro_rules | `(tactic| walk_at "D") => `(tactic| (try simp only [qAsg, qRet, qDrop, qIfS, qTest, qAndT, qOrT, qNotT, qAndV, qOrV, qNotV, qIf, qOp, qUn, qChain, onB, qv, qc, qgN, qgT, qgCons, qgNil, qCons, qNil, qTup, qLst, qPar, qPar3, qAug, qCB, qCall, qLen, qTupleC, qListC, qMax2, qMin2, qIntC, qSum, qAny, qAll, qIsi, tyName, qAdd, qSub, qMul, qFdiv, qMod, qPow, qI2, qCmpI, qEq, qNe, qLt, qLe, qGt, qGe, qNeg, qIx, qDGet, qDIn, qDPut, qSl, qPart, qNoPart, qNext, qFor, qiSeq, qiRng1, qiRng2, qiZip, qiEnum, qLc, seqSrc, lsrc, titems, litems, sitems, fz, newL, List.getElem?_cons_zero, List.getElem?_cons_succ, List.set_cons_zero, List.set_cons_succ, if_true, if_false, Bool.false_eq_true, ite_true, ite_false, up_same, reduceIte, decide_true, decide_false, true_and, and_true, eqv_int, eqv_bool, eqv_TI, eqv_LI, eqv_TT, eqv_LT, eqv_nilL, eqv_nilT, shaped_TI, shaped_LI, shaped_TT, shaped_LT, shaped_int, shaped_bool, shaped_nilL, shaped_nilT, dints_map2, dbools_map2, datas_map, mkT_map, mkT_0, mkT_1, mkT_2, mkT_3, List.length_map, List.length_cons, List.length_nil, List.length_append, List.map_cons, List.map_nil, wipeD, Bool.not_true, Bool.not_false, eq_self, not_true_eq_false, not_false_eq_true, kitB_tt, kitB_ll, kitB_dd, kitB_bb, kitB_ib, kitB_ii, kitB_ss, kitB_tl, kitB_lt, Function.comp, datas, Option.map_some, List.cons_append, List.nil_append, CPow, le_size4, Int.toNat_natCast, rngD0, I_eq, Bo_eq, BS.qSortB, in_IT, in_IL, in_TT, in_TL, qNotN, qIsN, qSortD, qListRg, qDispT, keyX_TI, qGet, qiItems, qLockE, qLockS, qPop, qMaxDf, qLc2, qMax1, qMin1, qAppend, qExtend, tints_TI, dv_TI, Option.bind_some, qRetN, atI_0, atI_1, atI_2, mk_appT, mk_snocI, idl, rep_I, Option.map_none, eqv_idl, shaped_idl, Bool.and_self, Bool.true_and, Bool.and_true]))
local macro_rules | `(tactic| walk_at "F") => `(tactic| (try simp only [qAsg, qRet, qDrop, qIfS, qTest, qAndT, qOrT, qNotT, qAndV, qOrV, qNotV, qIf, qOp, qUn, qChain, onB, qv, qc, qgN, qgT, qgCons, qgNil, qCons, qNil, qTup, qLst, qPar, qPar3, qAug, qCB, qCall, qLen, qTupleC, qListC, qMax2, qMin2, qIntC, qSum, qAny, qAll, qIsi, tyName, qAdd, qSub, qMul, qFdiv, qMod, qPow, qI2, qCmpI, qEq, qNe, qLt, qLe, qGt, qGe, qNeg, qIx, qDGet, qDIn, qDPut, qSl, qPart, qNoPart, qNext, qFor, qiRng1, qiRng2, qiZip, qiEnum, qLc, fz, newL, List.getElem?_cons_zero, List.getElem?_cons_succ, List.set_cons_zero, List.set_cons_succ, if_true, if_false, Bool.false_eq_true, ite_true, ite_false, up_same, reduceIte, decide_true, decide_false, true_and, and_true, eqv_int, eqv_bool, eqv_TI, eqv_LI, eqv_TT, eqv_LT, eqv_nilL, eqv_nilT, shaped_TI, shaped_LI, shaped_TT, shaped_LT, shaped_int, shaped_bool, shaped_nilL, shaped_nilT, dints_map2, dbools_map2, datas_map, mkT_map, mkT_0, mkT_1, mkT_2, mkT_3, List.length_map, List.length_cons, List.length_nil, List.length_append, List.map_cons, List.map_nil, wipeD, Bool.not_true, Bool.not_false, eq_self, not_true_eq_false, not_false_eq_true, kitB_tt, kitB_ll, kitB_dd, kitB_bb, kitB_ib, kitB_ii, kitB_ss, kitB_tl, kitB_lt, Function.comp, datas, Option.map_some, List.cons_append, List.nil_append, CPow, le_size4, Int.toNat_natCast, rngD0, I_eq, Bo_eq, BS.qSortB, in_IT, in_IL, in_TT, in_TL, qNotN, qIsN, qSortD, qListRg, qDispT, keyX_TI, qGet, qiItems, qLockE, qLockS, qPop, qMaxDf, qLc2, qMax1, qMin1, qAppend, qExtend, tints_TI, dv_TI, Option.bind_some, qRetN, atI_0, atI_1, atI_2, mk_appT, mk_snocI, idl, rep_I, Option.map_none, eqv_idl, shaped_idl, Bool.and_self, Bool.true_and, Bool.and_true]))
namespace UC
open PySem L2 DL RD
abbrev cutS (A : List (List Int)) (f : List Int) : List (List Int) := A.map fun a => cutL a f
end UC
end
section
set_option Elab.async false
set_option linter.all false
set_option maxRecDepth 100000
set_option maxHeartbeats 1000000
namespace UC
open PySem L2 DL RD
section
variable {n : Nat} {A B : List (List Int)} {st : Sto} {Q : DV → Sto → Prop}
abbrev J (n : Nat) (A : List (List Int)) : Prop := Idl n ((3 : Nat) : Int) 49 A
end
end UC
end
section
set_option Elab.async false
set_option linter.all false
set_option maxRecDepth 100000
set_option maxHeartbeats 1000000
namespace UC
open PySem L2 DL RD
def Unit1 (n : Nat) (q : List Int) : Prop := q.length = n ∧ ∀ j < n, gd q j = 0 ∨ gd q j = 1
theorem Unit1.nn {n : Nat} {q : List Int} (h : Unit1 n q) : NN n q := nn_of_gd h.1 fun j hj => by rcases h.2 j hj with e | e <;> omega
end UC
end
section
set_option Elab.async false
set_option linter.all false
set_option maxRecDepth 100000
set_option maxHeartbeats 1000000
namespace UC
open PySem L2 DL RD
theorem mem_supp {n : Nat} {p : List Int} (hp : p.length = n) {x : Int} : x ∈ suppL p ↔ ∃ j < n, 0 < gd p j ∧ x = (j : Int) := by
  unfold suppL
  rw [zipIdx_range, hp]
  simp only [List.mem_map, List.mem_filter, List.mem_range, decide_eq_true_eq]
  constructor
  · rintro ⟨z, ⟨⟨j, hj, rfl⟩, h⟩, rfl⟩
    exact ⟨j, hj, h, rfl⟩
  · rintro ⟨j, hj, h, rfl⟩
    exact ⟨_, ⟨⟨j, hj, rfl⟩, h⟩, rfl⟩
theorem supp_filter {n : Nat} {p : List Int} (hp : p.length = n) : suppL p = ((List.range n).filter fun j => decide (0 < gd p j)).map fun (j : Nat) => (j : Int) := by
  unfold suppL
  rw [zipIdx_range, hp, List.filter_map, List.map_map]
  rfl
end UC
end
section
set_option Elab.async false
set_option linter.all false
set_option maxRecDepth 100000
set_option maxHeartbeats 1000000
namespace UC
open PySem L2 DL RD
def subsL (xs : List Int) : List (List Int) := xs.foldl (fun F x => F ++ F.map fun a => a ++ [x]) [[]]
theorem subs_snoc (xs : List Int) (x : Int) : subsL (xs ++ [x]) = subsL xs ++ (subsL xs).map fun a => a ++ [x] := by
  unfold subsL
  rw [List.foldl_append]
  rfl
theorem mem_subs {xs l : List Int} : l ∈ subsL xs ↔ l.Sublist xs := by
  have key : ∀ (ts pre : List Int) (F : List (List Int)), (∀ l, l ∈ F ↔ l.Sublist pre) → ∀ l, l ∈ ts.foldl (fun F x => F ++ F.map fun a => a ++ [x]) F ↔ l.Sublist (pre ++ ts) := by
    intro ts
    induction ts with
    | nil => intro pre F h l; rw [List.append_nil]; exact h l
    | cons t ts ih =>
      intro pre F h l
      rw [List.foldl_cons, show pre ++ t :: ts = (pre ++ [t]) ++ ts by simp]
      refine ih (pre ++ [t]) _ (fun m => ?_) l
      rw [List.mem_append, List.mem_map, List.sublist_append_iff]
      constructor
      · rintro (hm | ⟨a, ha, rfl⟩)
        · exact ⟨m, [], by simp, (h m).mp hm, List.nil_sublist _⟩
        · exact ⟨a, [t], rfl, (h a).mp ha, List.Sublist.refl _⟩
      · rintro ⟨l1, l2, rfl, h1, h2⟩
        cases l2 with
        | nil => exact .inl (by rw [List.append_nil]; exact (h l1).mpr h1)
        | cons y r =>
          have hl := h2.length_le
          simp only [List.length_cons, List.length_nil] at hl
          have hr : r = [] := List.eq_nil_of_length_eq_zero (by omega)
          subst hr
          have : y = t := by
            have := h2.subset (List.mem_singleton.mpr rfl)
            exact List.mem_singleton.mp this
          subst this
          exact .inr ⟨l1, (h l1).mpr h1, rfl⟩
  have := key xs [] [[]] (fun l => by simp [List.sublist_nil]) l
  rw [List.nil_append] at this
  exact this
theorem len_subs (xs : List Int) : (subsL xs).length = 2 ^ xs.length := by
  have key : ∀ (ts : List Int) (F : List (List Int)), (ts.foldl (fun F x => F ++ F.map fun a => a ++ [x]) F).length = F.length * 2 ^ ts.length := by
    intro ts
    induction ts with
    | nil => intro F; simp
    | cons t ts ih =>
      intro F
      rw [List.foldl_cons, ih, List.length_append, List.length_map, List.length_cons, Nat.pow_succ, Nat.mul_comm (2 ^ ts.length) 2, ← Nat.mul_assoc]
      congr 1
      omega
  have := key xs [[]]
  unfold subsL
  rw [this]
  simp
abbrev rangeI (n : Nat) : List Int := (List.range n).map fun (k : Nat) => (k : Int)
theorem nodup_rangeI (n : Nat) : (rangeI n).Nodup := nodup_map_of List.nodup_range fun a _ b _ e => by
  have : (a : Int) = (b : Int) := e
  omega
end UC
end
section
set_option Elab.async false
set_option linter.all false
set_option maxRecDepth 100000
set_option maxHeartbeats 2000000
namespace L2
open PySem PySem.Spec PyProof.Rows
section
variable {X : Cx} {pos pos' : Pos} {o i value : Expr} {to ti tv : TE}
def sLPut (to ti tv : TE) : TS := fun D σ H => tv σ H fun v H1 => to σ H1 fun x H2 => ti σ H2 fun y H3 => rSetL x y v H3 fun H4 => D.nx σ H4
theorem ps_lput (ho : PE X o to) (hi : PE X i ti) (hv : PE X value tv) (hs : swapsWith value (some (.Subscript o i pos')) pos.line X.env = pure false) :
    PS X (.Assign [.Subscript o i pos'] value pos) (sLPut to ti tv) := by
  refine ⟨fun pins s σ H D I h => ?_⟩
  refine wpAny_Assign_Subscript (thn (hv.run pins s σ H _ I h) fun r s1 ⟨v, H1, I1, rv, q1⟩ => thn (ho.run pins s1 σ H1 _ I1 q1) fun u s2 ⟨x, H2, I2, rx, q2⟩ => thn (hi.run pins s2 σ H2 _ I2 q2) fun iv s3 ⟨y, H3, I3, ry, q3⟩ => ?_) hs
  exact thn (set_list pins s3 σ H3 x y v u iv r _ I3 rx ry rv q3) fun _ s4 ⟨H4, I4, q4⟩ => ⟨σ, H4, I4, q4⟩
end
end L2
namespace DL
open PySem PySem.Spec L2 PyProof.Rows
variable [tB : Tb] [gR : Gr]
section
variable {P : Program} {w : World} {K : PySem.W.Frag} {mg : Str → Option Value} {base : Heap} {X : Cx} {N : List Str} {sc fs : Scope} {k : Nat}
theorem rvs_set {F : Hp} {v : V} {x : DV} (r : RV K F v x) : ∀ {vs : List V} {xs : List DV} (j : Nat), RVs K F vs xs → RVs K F (vs.set j v) (xs.set j x)
  | _, _, _, .nil => .nil
  | _ :: _, _ :: _, 0, .cons _ s => .cons r s
  | _ :: _, _ :: _, j + 1, .cons h s => .cons h (rvs_set r j s)
/-- xs[i] = v -/
def qLPut (to ti tv : TD) : TDs := fun D ε st => tv ε st fun v s1 => to ε s1 fun x s2 => ti ε s2 fun y s3 => match x, y with
  | .r a, .d (.int i) => ∃ xs j, s3 a = some (.lst xs) ∧ ixN xs.length i = some j ∧ D.nx ε (up s3 a (.lst (xs.set j v)))
  | _, _ => False
theorem ds_lput {o i value : Expr} {pos pos' : Pos} {to ti tv : TD} (c : Cok P w K mg base X N sc fs k) (ho : DE X o to) (hi : DE X i ti) (hv : DE X value tv) (hs : swapsWith value (some (.Subscript o i pos')) pos.line X.env = pure false) : DS X (.Assign [.Subscript o i pos'] value pos) (qLPut to ti tv) := by
  obtain ⟨t1, p1, a1⟩ := ho
  obtain ⟨t2, p2, a2⟩ := hi
  obtain ⟨t3, p3, a3⟩ := hv
  refine ⟨⟨_, ps_lput p1 p2 p3 hs, fun F σ H ε st Dd D R E h kk => ?_⟩⟩
  refine a3 F σ H ε st _ _ R E h fun F1 v H1 x s1 st1 R1 r1 q => ?_
  refine a1 F1 σ H1 ε s1 _ _ R1 (E.mono st1.ex) q fun F2 u H2 y s2 st2 R2 r2 q => ?_
  refine a2 F2 σ H2 ε s2 _ _ R2 (E.mono (st1.trans st2).ex) q fun F3 z H3 y' s3 st3 R3 r3 q => ?_
  split at q
  · obtain ⟨xs, j, ex, hj, q⟩ := q
    cases r2
    cases rv_int r3
    obtain ⟨vs, hv, s⟩ := R3.ok _ _ ex
    have r1' := r1.mono (st2.trans st3).ex
    obtain ⟨R4, t4⟩ := R3.put (o := .lst (vs.set j v)) (m := .lst (xs.set j x)) ex ⟨_, upd_same, rvs_set r1' j s⟩
    exact ⟨_, vs, _, j, rfl, rfl, hv, by rw [s.length]; exact hj, kk.nx F3 σ _ ε _ (((st1.trans st2).trans st3).trans t4) R4 (E.mono ((st1.trans st2).trans st3).ex) q⟩
  · exact q.elim
end
end DL
end
section
set_option Elab.async false
set_option linter.all false
set_option maxRecDepth 100000
set_option maxHeartbeats 2000000
namespace L2
open PySem PySem.Spec PyProof.Rows
end L2
namespace DL
open PySem PySem.Spec L2 PyProof.Rows
end DL
end
section
set_option Elab.async false
set_option linter.all false
set_option maxRecDepth 100000
set_option maxHeartbeats 2000000
namespace L2
open PySem PySem.Spec PyProof.Rows
/-- a promise that is kept where no guard stands -/
structure FnG (P : Program) (w : World) (K : PySem.W.Frag) (mg : Str → Option Value) (bs : Heap) (k : Nat) (f : Addr) (fd : FuncData) (ps : List Str) (sp : Sp) : Prop where
  lenG : ∀ vs H Q E, sp vs H Q E → vs.length = ps.length
  runG : ∀ (A : Around) (out : List Env) (s : Shared) (H : Hp) (ar : Args) (us : List Value) (vs : List V) (Q : VK) (E : XK), A.guards = some [] → Room k A → Env0 P w K mg bs A out s H → BindsTo s fd ar (ps.zip us) →
    Vals vs us → sp vs H Q E → codeAny (model P w) A (.call (.ref f) ar) (CR CX0 out P w H s Q E) s
theorem fnG_of {P : Program} {w : World} {K : PySem.W.Frag} {mg : Str → Option Value} {bs : Heap} {k : Nat} {f : Addr} {nm qual : Str} {pr : Arguments} {body : List Stmt} {sc : Scope} {dV kV dc pm cdv ct oc : Value} {an od : Option Addr}
    {sl : Array (Option Value)} {N ps : List Str} {sp : Sp} (look : K.lookup f = some ⟨oc, od, .func (PySem.W.fnOf nm qual pr body sc dV kV dc pm an cdv ct), sl⟩) (code : PySem.W.codeIn K cdv qual = true) (S : FnScope N ps sc)
    (hlen : ∀ vs H Q E, sp vs H Q E → vs.length = ps.length)
    (hb : ∀ (A : Around) (out : List Env) (s : Shared) (H : Hp) (vs : List V) (Q : VK) (E : XK), A.guards = some [] → Room k (A.deeper (envOfC qual sc s.heap.objs.size f cdv)) → sp vs H Q E →
      ∃ t, PSs (cxOf CX0 P w K mg bs N qual sc f cdv A out s H E) body t ∧ t { nx := fun _ H' => Q .non H', rt := Q } (start N vs) H) :
    FnG P w K mg bs (k + 1) f (PySem.W.fnOf nm qual pr body sc dV kV dc pm an cdv ct) ps sp := by
  refine ⟨hlen, fun A out s H ar us vs Q E hg room en bd rv hsp => ?_⟩
  have len1 := hlen _ _ _ _ hsp
  have inK : K.In s.heap := en.mod.kin.keeps fun b o e => (en.bs b o e).1
  have noLim : s.heap.NoLimit := en.mod.nolimit.keeps fun b o e => (en.bs b o e).1
  have kinds : ∀ y ∈ ps.zip us, sc.names.lookup y.1 = some .local ∨ (sc.names.lookup y.1 = some .cell ∧ ((cellsFrom (s.heap.objs.size + 1) sc.names []).lookup y.1).isSome = true) := fun ⟨n, v⟩ hy =>
    (S.par n (List.of_mem_zip hy).1).elim (fun q => .inl q) fun q => .inr ⟨q, PySem.W.cellsFrom_some _ _ _ (.inl q)⟩
  refine codeAny_call_function room.depth (inK _ _ look) rfl S.co S.gen rfl (PySem.W.codeRec_of inK code) (bd _ _ _ _ (wpAny_newFunctionEnv_cells S.kind kinds fun env he s1 xi => ?_))
  cases he
  refine ⟨noLim.keeps xi.toInCall.keep, codeAny_func ?_⟩
  obtain ⟨t, ht, hq⟩ := hb A out s H vs Q E hg (room.deeper _) hsp
  have J0 := inv_start (CX := CX0) (E := E) S room.hd en len1 rv xi
  refine wpAny_mono (ht.run [] s1 (start N vs) H _ J0 hq) (fun fl s' z => ?_) fun e s' z => z
  cases fl with
  | ret u => exact let ⟨v, _, H', J, r2, q⟩ := z; ⟨v, H', J.os, J.bare, J.base, J.hok, r2, q⟩
  | next => exact let ⟨_, H', J, q⟩ := z; ⟨V.non, H', J.os, J.bare, J.base, J.hok, rfl, q⟩
  | brk => exact let ⟨_, _, _, q⟩ := z; q.elim
  | cont => exact let ⟨_, _, _, q⟩ := z; q.elim
end L2
end
section
set_option Elab.async false
set_option linter.all false
set_option maxRecDepth 100000
set_option maxHeartbeats 2000000
namespace DL
open PySem PySem.Spec L2 PyProof.Rows
variable [tB : Tb] [gR : Gr]
section
variable {P : Program} {w : World} {K : PySem.W.Frag} {mg : Str → Option Value} {base : Heap} {X : Cx} {N : List Str} {sc fs : Scope} {k : Nat}
omit gR in
theorem fnG_ok {x qual : Str} {s : Stmt} {f : Addr} {fd : FuncData} {ps : List Str} {sp : SpD} {t : TDs} (Fu : Fun K x qual s f fd) (S : FnScope N ps (defScope s)) (len : ∀ xs st Q, sp xs st Q → xs.length = ps.length)
    (body : ∀ [Gr] X, Cok P w K mg base X N (defScope s) (defScope s) k → X.A.guards = some [] → DSs X (defBody s) t)
    (sem : ∀ xs st Q, sp xs st Q → t { nx := fun _ st' => Fg Q (.d .none) st', rt := Fg Q } (startD N.length xs) st) : FnG P w K mg base (k + 1) f fd ps (hsp K sp) := by
  obtain ⟨oc, od, kV, doc, pm, an, cdv, ct, osl, rfl, lk, hcd⟩ := Fu.ex
  refine fnG_of lk hcd S (fun vs H Q E ⟨F, st, xs, Qd, R, r, h, kk⟩ => r.length.trans (len xs st Qd h)) fun A out s' H vs Q E hg hr ⟨F, st, xs, Qd, R, r, h, kk⟩ => ?_
  have c : Cok P w K mg base (cxOf CX0 P w K mg base N qual (defScope s) f cdv A out s' H E).nox N (defScope s) (defScope s) k :=
    ⟨rfl, rfl, rfl, rfl, rfl, rfl, S.nd, S.kind, rfl, rfl, fun _ _ => rfl, hr, fun _ _ h => h.elim⟩
  obtain ⟨ts, p, a⟩ := body _ c hg
  have fin : ∀ F' v H' x' st', Step F H st F' H' st' → Rs K F' H' st' → RV K F' v x' → Fg Qd x' st' → Q v H' := fun F' v H' x' st' t R' r' ⟨st2, le, q⟩ =>
    kk F' v H' x' st2 (t.less le) (R'.toRs0.le le).tr r' q
  refine ⟨ts, p.nox, a F _ H (startD N.length xs) st _ _ R.tr (start_re r N) (sem xs st Qd h) ⟨fun F' σ' H' ε' st' t R' E' q => fin F' .non H' (.d .none) st' t R' (.d .non) q, fin, fun _ _ _ _ _ _ _ _ z => z.elim, fun _ _ _ _ _ _ _ _ z => z.elim⟩⟩
theorem bb_repr : bootBuiltins "repr" = some (.builtin "repr") := by decide +kernel
def reprOk (d : PyData) : Prop := d.showable = true ∧ d.hasDict = false ∧ d.depth ≤ 16 ∧ d.shown.length ≤ sizeLine
def rRepr (K : PySem.W.Frag) : List V → Hp → VK → Prop := fun vs H Q => ∃ v d, vs = [v] ∧ Dp K H v d ∧ reprOk d ∧ (∀ x, d ≠ .str x) ∧ Q (.str d.shown) H
theorem cr_repr (hg : X.A.guards = some []) (hu : X.A.units + 64 < cLine) : CallR X (.builtin "repr") (rRepr X.K) := by
  intro pins s σ H vs us Q I r h
  obtain ⟨v, d, rfl, hd, ⟨h1, h2, h3, h4⟩, hs, q⟩ := h
  obtain ⟨u, rfl, ru⟩ := r.one
  obtain ⟨as, rd⟩ := Dp.reads I d v u hd ru
  have disp : ∀ {a : Addr}, u = .ref a → wpAny (model X.prog X.w) X.A (call (.builtin "repr") [u]) (EP X pins σ Q) X.xe s := fun {a} e => by
    subst e
    exact repr_of_reads' rd h1 (PyData.noDict_hsm h2) hg (by omega) (fun _ _ e => e) (fun h' u tk hk => ⟨.str d.shown, H, I.kept (t' := tk) hk, ⟨_, rfl⟩, q⟩) h4
  cases hd with
  | non =>
    cases ru
    exact PySem.P.repr_of_none ⟨.str _, H, I.tok _, ⟨_, rfl⟩, q⟩
  | bl b =>
    cases ru
    exact PySem.P.repr_of_bool ⟨.str _, H, I.tok _, ⟨_, rfl⟩, q⟩
  | int i =>
    obtain ⟨t, rfl⟩ := ru
    exact PySem.P.repr_of_int (of_decide_eq_true h1) ⟨.str _, H, I.tok _, ⟨_, rfl⟩, q⟩
  | str x => exact absurd rfl (hs x)
  | lst _ _ => exact disp ru
  | tup _ _ => exact disp ru
def qRepr : RLD := fun xs st Q => match xs with
  | [x] => (match fz st x with
    | some d => reprOk d ∧ (∀ x, d ≠ .str x) ∧ Q (.d (.str d.shown)) st
    | none => False)
  | _ => False
theorem c_repr (hg : X.A.guards = some []) (hu : X.A.units + 64 < cLine) : ∃ r', CallR X (.builtin "repr") r' ∧ SL X.K r' qRepr := by
  refine ⟨_, cr_repr hg hu, ?_⟩
  intro F H st vs xs Qd Q R rv h kk
  unfold qRepr at h
  split at h
  rotate_left
  · exact h.elim
  split at h
  rotate_left
  · exact h.elim
  rename_i d e
  obtain ⟨v, rfl, r⟩ := rvs1 rv
  exact ⟨v, d, rfl, fz_dp R r e, h.1, h.2.1, kk.at R (.d (.str _)) h.2.2⟩
def rStr (g : Str → Str → Bool) : V → V → Hp → VK → Prop := fun x y H Q => ∃ a b, x = .str a ∧ y = .str b ∧ Q (.bl (g a b)) H
theorem op_neS : OpR X (compareOp .NotEq) (rStr fun a b => a.cps.toList != b.cps.toList) := by
  intro pins s σ H x y v u Q I rx ry h
  obtain ⟨a, b, rfl, rfl, q⟩ := h
  obtain ⟨t, rfl⟩ := rx
  obtain ⟨t2, rfl⟩ := ry
  exact PySem.P.ne_str ⟨.bl _, H, I, rfl, q⟩
def qNeS : R2D := fun x y st Q => match x, y with
  | .d (.str a), .d (.str b) => Q (.d (.bool (a.cps.toList != b.cps.toList))) st
  | _, _ => False
theorem op_qNeS : ∃ r', OpR X (compareOp .NotEq) r' ∧ S2 X.K r' qNeS :=
  ⟨_, op_neS, fun F H st v w x y Qd Q R rv rw' h kk => by
    unfold qNeS at h
    split at h
    · cases rv_str rv; cases rv_str rw'
      exact ⟨_, _, rfl, rfl, kk.at R (.d (.bl _)) h⟩
    · exact h.elim⟩
end
end DL
end
section
set_option Elab.async false
set_option linter.all false
set_option maxRecDepth 100000
set_option maxHeartbeats 2000000
namespace L2
open PySem PySem.Spec PyProof.Rows
section
variable {X : Cx} {CX : CXT} {k j : Nat} {f : Addr} {fd : FuncData} {ps : List Str} {sp : Sp} {x : Str} {p pos : Pos} {e : Expr} {es : List Expr} {t : TA}
theorem FnG.mono {P : Program} {w : World} {K : PySem.W.Frag} {mg : Str → Option Value} {base : Heap} (F : FnG P w K mg base j f fd ps sp) (h : j ≤ k) : FnG P w K mg base k f fd ps sp :=
  ⟨F.lenG, fun A outer s H args us vs Q E hg hr => F.runG A outer s H args us vs Q E hg (hr.mono h)⟩
theorem run_fnG {pins : List (Addr × Obj)} {σ : St} {H : Hp} {s : Shared} {Q : VK} {us : List Value} {vs : List V} (hgd : X.A.guards = some []) (F : FnG X.prog X.w X.K X.mg X.base k f fd ps sp) (hr : Room k X.A) (hb : Binds X.K fd ps [])
    (I : Inv X pins σ H s) (r : Vals vs us) (h : sp vs H Q E0) : wpAny (model X.prog X.w) X.A (call (.ref f) us) (EP X pins σ Q) X.xe s := by
  have hl : us.length = ps.length := by rw [← r.length]; exact F.lenG _ _ _ _ h
  have b := hb s us I.kIn (by rw [List.append_nil]; exact hl)
  rw [List.append_nil] at b
  refine wpAny_call (codeAny_mono (F.runG X.A X.stack s H ⟨us, []⟩ us vs Q E0 hgd hr I.env0 b r h) fun r s' hq => ?_)
  cases r with
  | error e => exact pass0 pins σ H s e s' I hq
  | ok fl =>
    cases fl with
    | ret u => exact I.after hq
    | next => exact False.elim hq
    | brk => exact False.elim hq
    | cont => exact False.elim hq
theorem pe_callG (hgd : X.A.guards = some []) (F : FnG X.prog X.w X.K X.mg X.base k f fd ps sp) (hr : Room k X.A) (hg : Gl X x) (hm : X.mg x = some (.ref f)) (hk : PySem.W.keepIn X.K (.ref f) = true) (hb : Binds X.K fd ps [])
    (ha : PA X (e :: es) t) (hdb : (x == ("__debug__" : Str)) = false := by decide) (he : starEach (e :: es) X.env = (false, eval e X.env) :: starEach es X.env := by rfl) (hpl : (backTo pos (starEach es X.env)).any (·.1) = false := by rfl) :
    PE X (.Call (.Name x p) (e :: es) [] pos) (fun σ H Q => t σ H fun vs H1 => sp vs H1 Q E0) := by
  refine ⟨fun pins s σ H Q I h => ?_⟩
  refine wpAny_Call_Name_kw (ld_glob I hg hm ?_ hdb)
  refine PySem.W.callWith_K (h₀ := X.base) I.ok.mod.kin hk (thn (ha.run pos pins s σ H _ I h) fun us s1 ⟨vs, H1, I1, r, q⟩ => ⟨I1.kIn, ?_⟩) he hpl
  exact run_fnG hgd F hr hb I1 r q
end
end L2
namespace DL
open PySem PySem.Spec L2 PyProof.Rows
variable [tB : Tb] [gR : Gr]
section
variable {P : Program} {w : World} {K : PySem.W.Frag} {mg : Str → Option Value} {base : Heap} {X : Cx} {N : List Str} {sc fs : Scope} {k : Nat}
/-- a def of the text that keeps a promise where no guard stands -/
def ClG (P : Program) (w : World) (K : PySem.W.Frag) (mg : Str → Option Value) (base : Heap) (x : Str) (j : Nat) (sp : SpD) : Prop :=
  ∃ (f : Addr) (fd : FuncData) (ps : List Str), mg x = some (.ref f) ∧ PySem.W.keepIn K (.ref f) = true ∧ FnG P w K mg base j f fd ps (hsp K sp) ∧ Binds K fd ps []
theorem de_callG {x : Str} {e : Expr} {es : List Expr} {ta : TDa} {p pos : Pos} {sp : SpD} {j : Nat} (hgd : X.A.guards = some []) (c : Cok P w K mg base X N sc fs k) (hg : glB sc x = true) (C : ClG P w K mg base x j sp) (hj : j ≤ k)
    (ha : DA X (e :: es) ta) (he : starEach (e :: es) X.env = (false, eval e X.env) :: starEach es X.env := by rfl) (hpl : (backTo pos (starEach es X.env)).any (·.1) = false := by rfl) : DE X (.Call (.Name x p) (e :: es) [] pos) (qCall sp ta) := by
  obtain ⟨f, fd, ps, hm, hk, G, b⟩ := C
  obtain ⟨t1, p1, a1⟩ := ha
  obtain ⟨hX1, hX2, hX3, hX4, hX5, _⟩ := id c
  have g := gl_of c hg
  have G' : FnG X.prog X.w X.K X.mg X.base k f fd ps (hsp X.K sp) := by
    rw [hX1, hX2, hX3, hX4, hX5]
    exact G.mono hj
  refine ⟨⟨_, pe_callG hgd G' c.room g.1 (by rw [hX4]; exact hm) (by rw [hX3]; exact hk) (by rw [hX3]; exact b) p1 g.2.2 he hpl, fun F σ H ε st Qd Q R E h kk => ?_⟩⟩
  refine a1 F σ H ε st _ _ R E h fun F1 vs H1 xs s1 t1 R1 r q => ?_
  exact ⟨F1, s1, xs, Qd, R1.toRs0, r, q, (kk.step t1).tr R1⟩
def rngDn (hi : Int) (n : Nat) : List DV := (List.range n).map fun (i : Nat) => .d (.int (hi - (i : Int)))
def qiRng3 (ta : TDa) : TDi := fun ε st Q => ta ε st fun vs s1 => match vs with
  | [.d (.int i), .d (.int j), .d (.int c)] => c = -1 ∧ (-(2 ^ 62) ≤ i ∧ i < 2 ^ 62 ∧ -(2 ^ 62) ≤ j ∧ j < 2 ^ 62) ∧ Q (rngDn i (i - j).toNat) (fun _ => True) s1
  | _ => False
theorem rngDn_src {F0 : Hp} (hi : Int) (n : Nat) : Src K F0 (Itc hi (-1) n) (rngDn hi n) (fun _ => True) := fun F H st e R iv => by
  unfold rngDn
  refine ⟨fun i x hx => ?_, by simp [Itc]⟩
  rw [List.getElem?_map] at hx
  by_cases hlt : i < n
  · rw [List.getElem?_range hlt] at hx
    cases hx
    refine ⟨hlt, fun v H' ⟨e1, e2⟩ => ?_⟩
    subst e1 e2
    rw [show hi + (i : Int) * -1 = hi - (i : Int) by omega]
    exact ⟨F, Step.refl _ _ _, R, .d (.int _)⟩
  · rw [List.getElem?_eq_none (by rw [List.length_range]; omega)] at hx
    cases hx
theorem di_rng3 {tg a b d : Expr} {ta : TDa} {p pos : Pos} (c : Cok P w K mg base X N sc fs k) (hg : glB sc "range" = true) (hm : mg "range" = none) (h : DA X [a, b, d] ta)
    (hs : starEach [a, b, d] X.env = (false, eval a X.env) :: starEach [b, d] X.env := by rfl) (hpl : (backTo pos (starEach [b, d] X.env)).any (·.1) = false := by rfl) : DI X tg (.Call (.Name "range" p) [a, b, d] [] pos) (qiRng3 ta) := by
  obtain ⟨t1, p1, a1⟩ := h
  refine ⟨⟨_, pi_range3 (gl_of c hg).1 (by rw [c.hmg]; exact hm) p1 hs hpl, fun F σ H ε st Qd R' R E h kk => ?_⟩⟩
  refine a1 F σ H ε st _ _ R E h fun F1 vs H1 xs s1 t1 R1 r q => ?_
  split at q
  · cases r with
    | cons r rr =>
      cases rr with
      | cons r2 rr =>
        cases rr with
        | cons r3 rr =>
          cases rr
          cases rv_int r
          cases rv_int r2
          cases rv_int r3
          obtain ⟨rfl, ⟨h1, h2, h3, h4⟩, q⟩ := q
          exact ⟨_, _, _, _, rfl, RgC.neg h1 h2 h3 h4, kk F1 _ H1 _ _ s1 t1 R1 (rngDn_src _ _) q⟩
  · exact q.elim
end
end DL
end
section
set_option Elab.async false
set_option linter.all false
set_option maxRecDepth 100000
set_option maxHeartbeats 2000000
namespace L2
open PySem PySem.Spec PyProof.Rows
end L2
namespace DL
open PySem PySem.Spec L2 PyProof.Rows
variable [tB : Tb] [gR : Gr]
theorem asc_ext : ∀ {a b : List Int}, a.Pairwise (· < ·) → b.Pairwise (· < ·) → (∀ x, x ∈ a ↔ x ∈ b) → a = b
  | [], [], _, _, _ => rfl
  | [], y :: b, _, _, h => absurd ((h y).mpr List.mem_cons_self) List.not_mem_nil
  | x :: a, [], _, _, h => absurd ((h x).mp List.mem_cons_self) List.not_mem_nil
  | x :: a, y :: b, ha, hb, h => by
    obtain ⟨a1, a2⟩ := List.pairwise_cons.mp ha
    obtain ⟨b1, b2⟩ := List.pairwise_cons.mp hb
    have e : x = y := by
      rcases List.mem_cons.mp ((h x).mp List.mem_cons_self) with q | q
      · exact q
      · rcases List.mem_cons.mp ((h y).mpr List.mem_cons_self) with r | r
        · exact r.symm
        · have := b1 x q
          have := a1 y r
          omega
    subst e
    congr 1
    refine asc_ext a2 b2 fun z => ⟨fun hz => ?_, fun hz => ?_⟩
    · rcases List.mem_cons.mp ((h z).mp (List.mem_cons_of_mem _ hz)) with q | q
      · have := a1 z hz
        omega
      · exact q
    · rcases List.mem_cons.mp ((h z).mpr (List.mem_cons_of_mem _ hz)) with q | q
      · have := b1 z hz
        omega
      · exact q
end DL
end
section
set_option Elab.async false
set_option linter.all false
set_option maxRecDepth 100000
set_option maxHeartbeats 1000000
namespace UC
open PySem L2 DL RD
abbrev Asc (a : List Int) : Prop := a.Pairwise (· < ·)
abbrev AscL (L : List (List Int)) : Prop := ∀ a ∈ L, Asc a
def insB (a b : List Int) : Bool := a.all fun x => decide (x ∈ b)
theorem insB_iff {a b : List Int} : insB a b = true ↔ ∀ x ∈ a, x ∈ b := by simp [insB]
theorem insB_refl (a : List Int) : insB a a = true := insB_iff.mpr fun _ h => h
theorem insB_tr {a b c : List Int} (h1 : insB a b = true) (h2 : insB b c = true) : insB a c = true := insB_iff.mpr fun x hx => insB_iff.mp h2 x (insB_iff.mp h1 x hx)
theorem insB_anti {a b : List Int} (ha : Asc a) (hb : Asc b) (h1 : insB a b = true) (h2 : insB b a = true) : a = b := asc_ext ha hb fun x => ⟨insB_iff.mp h1 x, insB_iff.mp h2 x⟩
theorem asc_sub : ∀ {b a : List Int}, Asc a → Asc b → (∀ x ∈ a, x ∈ b) → a.Sublist b
  | [], a, _, _, h => by
    cases a with
    | nil => exact List.Sublist.refl _
    | cons x a => exact absurd (h x List.mem_cons_self) List.not_mem_nil
  | y :: b, [], _, _, _ => List.nil_sublist _
  | y :: b, x :: a, ha, hb, h => by
    obtain ⟨a1, a2⟩ := List.pairwise_cons.mp ha
    obtain ⟨b1, b2⟩ := List.pairwise_cons.mp hb
    by_cases e : x = y
    · subst e
      refine List.Sublist.cons₂ _ (asc_sub a2 b2 fun z hz => ?_)
      rcases List.mem_cons.mp (h z (List.mem_cons_of_mem _ hz)) with q | q
      · have := a1 z hz
        omega
      · exact q
    · have hx : x ∈ b := (List.mem_cons.mp (h x List.mem_cons_self)).resolve_left e
      have hyx := b1 x hx
      refine List.Sublist.cons _ (asc_sub ha b2 fun z hz => ?_)
      rcases List.mem_cons.mp (h z hz) with q | q
      · rcases List.mem_cons.mp hz with r | r
        · omega
        · have := a1 z r
          omega
      · exact q
theorem asc_len {a b : List Int} (ha : Asc a) (hb : Asc b) (h : insB a b = true) (hn : b ≠ a) : a.length < b.length := by
  have s := asc_sub ha hb (insB_iff.mp h)
  rcases Nat.lt_or_ge a.length b.length with c | c
  · exact c
  · exact absurd (s.eq_of_length (Nat.le_antisymm s.length_le c)).symm hn
def maxF (L : List (List Int)) : List (List Int) := (sortU L).filter fun a => decide ((sortU L).filter (fun b => decide (b ≠ a) && insB a b) = [])
theorem mem_maxF {L : List (List Int)} {a : List Int} : a ∈ maxF L ↔ a ∈ L ∧ ∀ b ∈ L, insB a b = true → b = a := by
  unfold maxF
  rw [List.mem_filter, mem_sortU, decide_eq_true_eq, List.filter_eq_nil_iff]
  refine and_congr_right fun _ => ⟨fun h b hb hi => ?_, fun h b hb => ?_⟩
  · refine Classical.byContradiction fun hn => h b (mem_sortU.mpr hb) ?_
    rw [hi, decide_eq_true hn]
    rfl
  · rw [Bool.and_eq_true, decide_eq_true_eq]
    exact fun ⟨h1, h2⟩ => h1 (h b (mem_sortU.mp hb) h2)
theorem ris_maxF (L : List (List Int)) : RisL (maxF L) := (ris_sortU L).sublist List.filter_sublist
theorem max_up {L : List (List Int)} (hL : AscL L) {a : List Int} (ha : a ∈ L) : ∃ b ∈ maxF L, insB a b = true := by
  have bound : ∃ M, ∀ b ∈ L, b.length ≤ M := by
    clear hL ha
    induction L with
    | nil => exact ⟨0, fun _ h => nomatch h⟩
    | cons x L ih =>
      obtain ⟨M, h⟩ := ih
      refine ⟨M + x.length, fun b hb => ?_⟩
      rcases List.mem_cons.mp hb with rfl | hb
      · omega
      · have := h b hb
        omega
  obtain ⟨M, hM⟩ := bound
  have key : ∀ (d : Nat) (c : List Int), c ∈ L → M - c.length ≤ d → ∃ b ∈ maxF L, insB c b = true := by
    intro d
    induction d with
    | zero =>
      intro c hc hd
      refine ⟨c, mem_maxF.mpr ⟨hc, fun b hb hi => ?_⟩, insB_refl c⟩
      refine Classical.byContradiction fun hn => ?_
      have := asc_len (hL c hc) (hL b hb) hi hn
      have := hM b hb
      omega
    | succ d ih =>
      intro c hc hd
      by_cases hm : ∀ b ∈ L, insB c b = true → b = c
      · exact ⟨c, mem_maxF.mpr ⟨hc, hm⟩, insB_refl c⟩
      · have : ∃ b, b ∈ L ∧ insB c b = true ∧ b ≠ c := Classical.byContradiction fun hno => hm fun b hb hi => Classical.byContradiction fun hn => hno ⟨b, hb, hi, hn⟩
        obtain ⟨b, hb, hi, hn⟩ := this
        have := asc_len (hL c hc) (hL b hb) hi hn
        obtain ⟨e, he, h2⟩ := ih b hb (by omega)
        exact ⟨e, he, insB_tr hi h2⟩
  exact key _ a ha (Nat.le_refl _)
theorem max_ext {S S' : List (List Int)} (hS : AscL S) (hS' : AscL S') (h1 : ∀ a ∈ S, ∃ b ∈ S', insB a b = true) (h2 : ∀ b ∈ S', ∃ a ∈ S, insB b a = true) : maxF S = maxF S' := by
  have half : ∀ {S S' : List (List Int)}, AscL S → AscL S' → (∀ a ∈ S, ∃ b ∈ S', insB a b = true) → (∀ b ∈ S', ∃ a ∈ S, insB b a = true) → ∀ a ∈ maxF S, a ∈ maxF S' := by
    intro S S' hS hS' h1 h2 a ha
    obtain ⟨m1, m2⟩ := mem_maxF.mp ha
    obtain ⟨b, hb, hab⟩ := h1 a m1
    obtain ⟨c, hc, hbc⟩ := h2 b hb
    have e := m2 c hc (insB_tr hab hbc)
    subst e
    have e2 := insB_anti (hS c hc) (hS' b hb) hab hbc
    subst e2
    refine mem_maxF.mpr ⟨hb, fun d hd hcd => ?_⟩
    obtain ⟨f, hf, hdf⟩ := h2 d hd
    have e3 := m2 f hf (insB_tr hcd hdf)
    subst e3
    exact insB_anti (hS' d hd) (hS f hf) hdf hcd
  exact ris_eq (ris_maxF S) (ris_maxF S') fun a => ⟨half hS hS' h1 h2 a, half hS' hS h2 h1 a⟩
theorem max_anti {L : List (List Int)} (h : ∀ a ∈ L, ∀ b ∈ L, insB a b = true → b = a) : maxF L = sortU L :=
  ris_eq (ris_maxF L) (ris_sortU L) fun a => by
    rw [mem_maxF, mem_sortU]
    exact ⟨fun z => z.1, fun z => ⟨z, h a z⟩⟩
structure IsCx (v : Nat) (F : List (List Int)) : Prop where
  ris : RisL F
  asc : AscL F
  low : ∀ a ∈ F, ∀ x ∈ a, 0 ≤ x ∧ x < v
  anti : ∀ a ∈ F, ∀ b ∈ F, insB a b = true → b = a
abbrev LowL (v : Nat) (L : List (List Int)) : Prop := ∀ a ∈ L, ∀ x ∈ a, 0 ≤ x ∧ x < v
theorem cx_maxF {v : Nat} {L : List (List Int)} (h1 : AscL L) (h2 : LowL v L) : IsCx v (maxF L) :=
  ⟨ris_maxF L, fun a ha => h1 a (mem_maxF.mp ha).1, fun a ha => h2 a (mem_maxF.mp ha).1, fun a ha b hb h => (mem_maxF.mp ha).2 b (mem_maxF.mp hb).1 h⟩
theorem IsCx.max {v : Nat} {F : List (List Int)} (h : IsCx v F) : maxF F = F := by
  rw [max_anti h.anti]
  exact sortU_eq h.ris fun x => Iff.rfl
/-- no set of numbers below v is longer -/
theorem asc_long {v : Nat} {a : List Int} (ha : Asc a) (hl : ∀ x ∈ a, 0 ≤ x ∧ x < v) : a.length ≤ v := by
  have hb : Asc (rangeI v) := by
    show List.Pairwise (· < ·) ((List.range v).map fun (k : Nat) => (k : Int))
    rw [List.pairwise_map]
    exact List.Pairwise.imp (fun h => by omega) List.pairwise_lt_range
  have := (asc_sub ha hb fun x hx => by
    have := hl x hx
    unfold rangeI
    exact List.mem_map.mpr ⟨x.toNat, List.mem_range.mpr (by omega), by omega⟩).length_le
  simpa [rangeI] using this
def stepFc (found : List (List Int)) (f : List Int) : List (List Int) := sortU (found ++ subsL f)
def facesF (F : List (List Int)) : List (List Int) := F.foldl stepFc []
theorem mem_facesF {F : List (List Int)} {a : List Int} : a ∈ facesF F ↔ ∃ b ∈ F, a.Sublist b := by
  have key : ∀ (F acc : List (List Int)), a ∈ F.foldl stepFc acc ↔ a ∈ acc ∨ ∃ b ∈ F, a.Sublist b := by
    intro F
    induction F with
    | nil => intro acc; simp
    | cons f F ih =>
      intro acc
      rw [List.foldl_cons, ih]
      unfold stepFc
      rw [mem_sortU, List.mem_append, mem_subs]
      constructor
      · rintro ((h | h) | ⟨b, hb, h⟩)
        · exact .inl h
        · exact .inr ⟨f, List.mem_cons_self, h⟩
        · exact .inr ⟨b, List.mem_cons_of_mem _ hb, h⟩
      · rintro (h | ⟨b, hb, h⟩)
        · exact .inl (.inl h)
        · rcases List.mem_cons.mp hb with rfl | hb
          · exact .inl (.inr h)
          · exact .inr ⟨b, hb, h⟩
  have := key F []
  simpa [facesF] using this
theorem face_iff {F : List (List Int)} (hF : AscL F) {a : List Int} : a ∈ facesF F ↔ Asc a ∧ ∃ b ∈ F, insB a b = true := by
  rw [mem_facesF]
  constructor
  · rintro ⟨b, hb, s⟩
    exact ⟨(hF b hb).sublist s, b, hb, insB_iff.mpr fun x hx => s.subset hx⟩
  · rintro ⟨ha, b, hb, h⟩
    exact ⟨b, hb, asc_sub ha (hF b hb) (insB_iff.mp h)⟩
theorem asc_faces {F : List (List Int)} (hF : AscL F) : AscL (facesF F) := fun a ha => ((face_iff hF).mp ha).1
theorem low_faces {v : Nat} {F : List (List Int)} (hF : LowL v F) : LowL v (facesF F) := fun a ha x hx => by
  obtain ⟨b, hb, s⟩ := mem_facesF.mp ha
  exact hF b hb x (s.subset hx)
theorem facet_face {F : List (List Int)} {a : List Int} (h : a ∈ F) : a ∈ facesF F := mem_facesF.mpr ⟨a, h, List.Sublist.refl _⟩
def stepG (size : Int) (found : List (List Int)) (a : List Int) : List (List Int) := if (decide ((a.length : Int) = size) && !(found.any fun o => insB a o)) = true then found ++ [a] else found
structure GInv (L : List (List Int)) (found : List (List Int)) : Prop where
  mem : ∀ c ∈ found, c ∈ maxF L
  nd : found.Nodup
theorem ginv_step {L found : List (List Int)} (hL : AscL L) {s : Nat} {a : List Int} (ha : a ∈ L) (g : GInv L found) (up : ∀ b ∈ L, s < b.length → ∃ c ∈ found, insB b c = true) :
    GInv L (stepG s found a) ∧ (∀ c ∈ found, c ∈ stepG s found a) ∧ (a.length = s → ∃ c ∈ stepG s found a, insB a c = true) := by
  unfold stepG
  split
  · rename_i h
    rw [Bool.and_eq_true, decide_eq_true_eq, Bool.not_eq_true', List.any_eq_false] at h
    have hal : a.length = s := by omega
    refine ⟨⟨fun c hc => ?_, ?_⟩, fun c hc => List.mem_append_left _ hc, fun _ => ⟨a, List.mem_append_right _ (List.mem_singleton.mpr rfl), insB_refl a⟩⟩
    · rcases List.mem_append.mp hc with z | z
      · exact g.mem c z
      · rw [List.mem_singleton.mp z]
        refine mem_maxF.mpr ⟨ha, fun b hb hi => Classical.byContradiction fun hn => ?_⟩
        have hlt := asc_len (hL a ha) (hL b hb) hi hn
        obtain ⟨c, hc, hbc⟩ := up b hb (by omega)
        exact h.2 c hc (insB_tr hi hbc)
    · rw [List.nodup_append]
      refine ⟨g.nd, by simp, fun x hx y hy e => ?_⟩
      rw [List.mem_singleton.mp hy] at e
      subst e
      exact h.2 x hx (insB_refl x)
  · rename_i h
    refine ⟨g, fun c hc => hc, fun hal => ?_⟩
    rw [Bool.and_eq_true, decide_eq_true_eq, not_and] at h
    have h2 := h (by omega)
    rw [Bool.not_eq_true', Bool.not_eq_false, List.any_eq_true] at h2
    exact h2
theorem ginv_size {L : List (List Int)} (hL : AscL L) {s : Nat} : ∀ (ev found : List (List Int)), (∀ a ∈ ev, a ∈ L) → GInv L found → (∀ b ∈ L, s < b.length → ∃ c ∈ found, insB b c = true) →
    GInv L (ev.foldl (stepG s) found) ∧ (∀ c ∈ found, c ∈ ev.foldl (stepG s) found) ∧ (∀ a ∈ ev, a.length = s → ∃ c ∈ ev.foldl (stepG s) found, insB a c = true)
  | [], found, _, g, _ => ⟨g, fun c hc => hc, fun _ h => nomatch h⟩
  | a :: ev, found, he, g, up => by
    obtain ⟨g1, k1, u1⟩ := ginv_step hL (he a List.mem_cons_self) g up
    obtain ⟨g2, k2, u2⟩ := ginv_size hL ev (stepG s found a) (fun b hb => he b (List.mem_cons_of_mem _ hb)) g1 fun b hb hs => by
      obtain ⟨c, hc, hi⟩ := up b hb hs
      exact ⟨c, k1 c hc, hi⟩
    refine ⟨g2, fun c hc => k2 c (k1 c hc), fun b hb hs => ?_⟩
    rcases List.mem_cons.mp hb with rfl | hb
    · obtain ⟨c, hc, hi⟩ := u1 hs
      exact ⟨c, k2 c hc, hi⟩
    · exact u2 b hb hs
end UC
end
section
set_option Elab.async false
set_option linter.all false
set_option maxRecDepth 100000
set_option maxHeartbeats 1000000
namespace UC
open PySem L2 DL RD
abbrev Tab := List (List Int × Int)
def evT (f : List Int → Int) : Tab → Int
  | [] => 0
  | p :: T => p.2 * f p.1 + evT f T
theorem ev_cong {f g : List Int → Int} : ∀ {T : Tab}, (∀ p ∈ T, f p.1 = g p.1) → evT f T = evT g T
  | [], _ => rfl
  | p :: T, h => by
    rw [evT, evT, h p List.mem_cons_self, ev_cong (T := T) fun q hq => h q (List.mem_cons_of_mem _ hq)]
theorem ev_zero : ∀ T : Tab, evT (fun _ => 0) T = 0
  | [] => rfl
  | p :: T => by rw [evT, ev_zero T, Int.mul_zero]; rfl
abbrev keysZ (T : Tab) : List (List Int) := T.map (·.1)
def chi (b a : List Int) : Int := if divB a b = true then 1 else 0
structure Canon (n : Nat) (P : Tab) : Prop where
  ris : RisL (keysZ P)
  nn : ∀ p ∈ P, NN n p.1
  nz : ∀ p ∈ P, p.2 ≠ 0
theorem chi_above {n : Nat} {a b : List Int} (ha : a.length = n) (hb : b.length = n) (h : lexL a b = true) : chi a b = 0 := by
  refine if_neg fun z => ?_
  rcases divB_lex (hb.trans ha.symm) z with e | e
  · rw [e, lexL_irr] at h; cases h
  · have := lexL_tr e h; rw [lexL_irr] at this; cases this
theorem ev_above {n : Nat} {a : List Int} (ha : a.length = n) {P : Tab} (hP : ∀ p ∈ P, NN n p.1 ∧ lexL a p.1 = true) : evT (chi a) P = 0 := by
  rw [ev_cong (g := fun _ => 0) fun p hp => chi_above ha (hP p hp).1.1 (hP p hp).2, ev_zero]
theorem Canon.below {n : Nat} {a : List Int} (ha : NN n a) {p : List Int × Int} {P : Tab} (h : Canon n (p :: P)) (hl : lexL a p.1 = true) : evT (chi a) (p :: P) = 0 := by
  refine ev_above ha.1 fun q hq => ⟨h.nn q hq, ?_⟩
  rcases List.mem_cons.mp hq with rfl | hq
  · exact hl
  · exact lexL_tr hl ((List.pairwise_cons.mp h.ris).1 _ (List.mem_map.mpr ⟨q, hq, rfl⟩))
end UC
end
section
set_option Elab.async false
set_option linter.all false
set_option maxRecDepth 100000
set_option maxHeartbeats 1000000
namespace UC
open PySem L2 DL RD
def degR : Nat → Nat → List (List Int)
  | 0, d => if d = 0 then [[]] else []
  | n + 1, d => (List.range (d + 1)).flatMap fun j => (degR n j).map fun a => ((d - j : Nat) : Int) :: a
def cntD (n d : Nat) : Nat := (degR n d).length
def hC (n d : Nat) (m : Int) : Int := if m ≤ d then (cntD n (d - m).toNat : Int) else 0
end UC
end
section
set_option Elab.async false
set_option linter.all false
set_option maxRecDepth 100000
set_option maxHeartbeats 1000000
namespace UC
open PySem L2 DL RD
def pairP (p : List Int × Int) : PyData := .tuple [TI p.1, .int p.2]
abbrev PT (P : Tab) : PyData := .tuple (P.map pairP)
def putK (S : List (Int × Int)) (a v : Int) : List (Int × Int) := if (S.any fun p => decide (p.1 = a)) = true then S.map fun p => if p.1 = a then (p.1, v) else p else S ++ [(a, v)]
def tabK (S : List (Int × Int)) : List (Key × DV) := S.map fun p => (Sum.inl p.1, I p.2)
theorem up_up {st : Sto} {a : Addr} {x y : MO} : up (up st a x) a y = up st a y := funext fun b => by
  by_cases h : b = a
  · rw [h, up_same, up_same]
  · rw [up_ne h, up_ne h, up_ne h]
end UC
end
section
set_option Elab.async false
set_option linter.all false
set_option maxRecDepth 100000
set_option maxHeartbeats 1000000
namespace UC
open PySem L2 DL RD
def bs (f : List Int → Int) : List Int → Int
  | [] => 0
  | x :: a => f a - bs (fun b => f (x :: b)) a
def bordA (a : List Int) : List (List Int) := (List.range a.length).map fun k => a.take k ++ a.drop (k + 1)
abbrev Fc (a : List Int) : Prop := a.length ≤ 7 ∧ ∀ x ∈ a, 0 ≤ x ∧ x ≤ 6
end UC
end
section
set_option Elab.async false
set_option linter.all false
set_option maxRecDepth 100000
set_option maxHeartbeats 1000000
namespace UC
open PySem L2 DL RD
def cmpV (v : Nat) (a : List Int) : List Int := (rangeI v).filter fun k => !decide (k ∈ a)
abbrev Low (v : Nat) (a : List Int) : Prop := ∀ x ∈ a, 0 ≤ x ∧ x < (v : Int)
theorem mem_rngV {v : Nat} {x : Int} : x ∈ rangeI v ↔ 0 ≤ x ∧ x < (v : Int) := by
  unfold rangeI
  rw [List.mem_map]
  constructor
  · rintro ⟨j, hj, rfl⟩
    rw [List.mem_range] at hj
    omega
  · intro h
    exact ⟨x.toNat, List.mem_range.mpr (by omega), by omega⟩
theorem asc_rngV (v : Nat) : Asc (rangeI v) := by
  show List.Pairwise (· < ·) ((List.range v).map fun (k : Nat) => (k : Int))
  rw [List.pairwise_map]
  exact List.Pairwise.imp (fun h => by omega) List.pairwise_lt_range
theorem mem_cmp {v : Nat} {a : List Int} {x : Int} : x ∈ cmpV v a ↔ (0 ≤ x ∧ x < (v : Int)) ∧ x ∉ a := by
  unfold cmpV
  rw [List.mem_filter, mem_rngV, Bool.not_eq_true', decide_eq_false_iff_not]
theorem asc_cmp (v : Nat) (a : List Int) : Asc (cmpV v a) := (asc_rngV v).sublist List.filter_sublist
theorem low_cmp (v : Nat) (a : List Int) : Low v (cmpV v a) := fun x hx => (mem_cmp.mp hx).1
theorem cmp_cmp {v : Nat} {a : List Int} (ha : Asc a) (hl : Low v a) : cmpV v (cmpV v a) = a := asc_ext (asc_cmp _ _) ha fun x => by
  rw [mem_cmp, mem_cmp]
  constructor
  · rintro ⟨h1, h2⟩
    exact Classical.byContradiction fun z => h2 ⟨h1, z⟩
  · exact fun h => ⟨hl x h, fun z => z.2 h⟩
theorem cmp_anti {v : Nat} {a b : List Int} (h : insB a b = true) : insB (cmpV v b) (cmpV v a) = true := insB_iff.mpr fun x hx => by
  obtain ⟨h1, h2⟩ := mem_cmp.mp hx
  exact mem_cmp.mpr ⟨h1, fun z => h2 (insB_iff.mp h x z)⟩
def alexS (v : Nat) (F : List (List Int)) : List (List Int) := (subsL (rangeI v)).filter fun a => !decide (cmpV v a ∈ facesF F)
def alexF (v : Nat) (F : List (List Int)) : List (List Int) := maxF (alexS v F)
theorem mem_alexS {v : Nat} {F : List (List Int)} {a : List Int} : a ∈ alexS v F ↔ Asc a ∧ Low v a ∧ cmpV v a ∉ facesF F := by
  unfold alexS
  rw [List.mem_filter, mem_subs, Bool.not_eq_true', decide_eq_false_iff_not, ← and_assoc]
  refine and_congr_left fun _ => ⟨fun h => ⟨(asc_rngV v).sublist h, fun x hx => mem_rngV.mp (h.subset hx)⟩, fun h => asc_sub h.1 (asc_rngV v) fun x hx => mem_rngV.mpr (h.2 x hx)⟩
theorem down_face {F : List (List Int)} (hF : AscL F) {a b : List Int} (ha : Asc a) (hb : b ∈ facesF F) (h : insB a b = true) : a ∈ facesF F := by
  obtain ⟨_, f, hf, hs⟩ := (face_iff hF).mp hb
  exact (face_iff hF).mpr ⟨ha, f, hf, insB_tr h hs⟩
theorem cx_alex (v : Nat) (F : List (List Int)) : IsCx v (alexF v F) := cx_maxF (fun a ha => (mem_alexS.mp ha).1) fun a ha => (mem_alexS.mp ha).2.1
theorem bord_sub {b c : List Int} (h : c ∈ bordA b) : c.Sublist b ∧ c.length < b.length := by
  unfold bordA at h
  obtain ⟨k, hk, rfl⟩ := List.mem_map.mp h
  rw [List.mem_range] at hk
  constructor
  · conv => rhs; rw [← List.take_append_drop k b]
    refine List.Sublist.append (List.Sublist.refl _) ?_
    rw [List.drop_eq_getElem_cons hk]
    exact List.sublist_cons_self _ _
  · rw [List.length_append, List.length_take, List.length_drop]
    omega
theorem bord_has {b : List Int} {x : Int} (hx : x ∈ b) : ∃ c ∈ bordA b, ∀ y ∈ b, y ≠ x → y ∈ c := by
  obtain ⟨k, hk, e⟩ := List.mem_iff_getElem.mp hx
  refine ⟨b.take k ++ b.drop (k + 1), List.mem_map.mpr ⟨k, List.mem_range.mpr hk, rfl⟩, fun y hy hn => ?_⟩
  rw [← List.take_append_drop k b, List.drop_eq_getElem_cons hk] at hy
  rcases List.mem_append.mp hy with z | z
  · exact List.mem_append_left _ z
  · rcases List.mem_cons.mp z with q | q
    · exact absurd (q.trans e) hn
    · exact List.mem_append_right _ q
/-- the least sets that are no faces -/
structure MinNF (v : Nat) (F : List (List Int)) (b : List Int) : Prop where
  asc : Asc b
  low : Low v b
  no : b ∉ facesF F
  bord : ∀ c ∈ bordA b, c ∈ facesF F
theorem alex_min {v : Nat} {F : List (List Int)} (hF : AscL F) {a : List Int} : a ∈ alexF v F ↔ ∃ b, MinNF v F b ∧ a = cmpV v b := by
  constructor
  · intro h
    obtain ⟨h1, h2⟩ := mem_maxF.mp h
    obtain ⟨a1, a2, a3⟩ := mem_alexS.mp h1
    refine ⟨cmpV v a, ⟨asc_cmp v a, low_cmp v a, a3, fun c hc => Classical.byContradiction fun hn => ?_⟩, (cmp_cmp a1 a2).symm⟩
    obtain ⟨s1, s2⟩ := bord_sub hc
    have c1 : Asc c := (asc_cmp v a).sublist s1
    have c2 : Low v c := fun x hx => low_cmp v a x (s1.subset hx)
    have hd : cmpV v c ∈ alexS v F := mem_alexS.mpr ⟨asc_cmp v c, low_cmp v c, by rw [cmp_cmp c1 c2]; exact hn⟩
    have hs : insB a (cmpV v c) = true := by
      have := cmp_anti (v := v) (insB_iff.mpr fun x hx => s1.subset hx : insB c (cmpV v a) = true)
      rwa [cmp_cmp a1 a2] at this
    have e := h2 _ hd hs
    have e2 : c = cmpV v a := by rw [← e, cmp_cmp c1 c2]
    rw [e2] at s2
    exact Nat.lt_irrefl _ s2
  · rintro ⟨b, hb, rfl⟩
    refine mem_maxF.mpr ⟨mem_alexS.mpr ⟨asc_cmp v b, low_cmp v b, by rw [cmp_cmp hb.asc hb.low]; exact hb.no⟩, fun d hd hs => ?_⟩
    obtain ⟨d1, d2, d3⟩ := mem_alexS.mp hd
    have hsub : insB (cmpV v d) b = true := by
      have := cmp_anti (v := v) hs
      rwa [cmp_cmp hb.asc hb.low] at this
    have e : cmpV v d = b := by
      refine asc_ext (asc_cmp v d) hb.asc fun x => ⟨insB_iff.mp hsub x, fun hx => Classical.byContradiction fun hn => ?_⟩
      obtain ⟨c, hc, hall⟩ := bord_has hx
      exact d3 (down_face hF (asc_cmp v d) (hb.bord c hc) (insB_iff.mpr fun y hy => hall y (insB_iff.mp hsub y hy) fun z => hn (z ▸ hy)))
    rw [← e, cmp_cmp d1 d2]
end UC
end
section
set_option Elab.async false
set_option linter.all false
set_option maxRecDepth 100000
set_option maxHeartbeats 1000000
open PySem L2 DL RD UC
local macro_rules | `(tactic| walk_at "E") => `(tactic| (try simp only [qAsg, qRet, qDrop, qIfS, qTest, qAndT, qOrT, qNotT, qAndV, qOrV, qNotV, qIf, qOp, qUn, qChain, onB, qv, qc, qgN, qgT, qgCons, qgNil, qCons, qNil, qTup, qLst, qPar, qPar3, qAug, qCB, qCall, qLen, qTupleC, qListC, qMax2, qMin2, qIntC, qSum, qAny, qAll, qIsi, tyName, qAdd, qSub, qMul, qFdiv, qMod, qPow, qI2, qCmpI, qEq, qNe, qLt, qLe, qGt, qGe, qNeg, qIx, qDGet, qDIn, qDPut, qSl, qPart, qNoPart, qNext, qFor, qiSeq, qiRng1, qiRng2, qiZip, qiEnum, qLc, seqSrc, lsrc, titems, litems, sitems, fz, newL, List.getElem?_cons_zero, List.getElem?_cons_succ, List.set_cons_zero, List.set_cons_succ, if_true, if_false, Bool.false_eq_true, ite_true, ite_false, up_same, reduceIte, decide_true, decide_false, true_and, and_true]))
local macro_rules | `(tactic| walk_at "D") => `(tactic| (try simp only [qAsg, qRet, qDrop, qIfS, qTest, qAndT, qOrT, qNotT, qAndV, qOrV, qNotV, qIf, qOp, qUn, qChain, onB, qv, qc, qgN, qgT, qgCons, qgNil, qCons, qNil, qTup, qLst, qPar, qPar3, qAug, qCB, qCall, qLen, qTupleC, qListC, qMax2, qMin2, qIntC, qSum, qAny, qAll, qIsi, tyName, qAdd, qSub, qMul, qFdiv, qMod, qPow, qI2, qCmpI, qEq, qNe, qLt, qLe, qGt, qGe, qNeg, qIx, qDGet, qDIn, qDPut, qSl, qPart, qNoPart, qNext, qFor, qiSeq, qiRng1, qiRng2, qiZip, qiEnum, qLc, seqSrc, lsrc, titems, litems, sitems, fz, newL, List.getElem?_cons_zero, List.getElem?_cons_succ, List.set_cons_zero, List.set_cons_succ, if_true, if_false, Bool.false_eq_true, ite_true, ite_false, up_same, reduceIte, decide_true, decide_false, true_and, and_true, eqv_int, eqv_bool, eqv_TI, eqv_LI, eqv_TT, eqv_LT, eqv_nilL, eqv_nilT, shaped_TI, shaped_LI, shaped_TT, shaped_LT, shaped_int, shaped_bool, shaped_nilL, shaped_nilT, dints_map2, dbools_map2, datas_map, mkT_map, mkT_0, mkT_1, mkT_2, mkT_3, List.length_map, List.length_cons, List.length_nil, List.length_append, List.map_cons, List.map_nil, wipeD, Bool.not_true, Bool.not_false, eq_self, not_true_eq_false, not_false_eq_true, kitB_tt, kitB_ll, kitB_dd, kitB_bb, kitB_ib, kitB_ii, kitB_ss, kitB_tl, kitB_lt, Function.comp, datas, Option.map_some, List.cons_append, List.nil_append, CPow, le_size4, Int.toNat_natCast, rngD0, I_eq, Bo_eq, BS.qSortB, in_IT, in_IL, in_TT, in_TL, qNotN, qIsN, qSortD, qListRg, qDispT, keyX_TI, qGet, qiItems, qLockE, qLockS, qPop, qMaxDf, qLc2, qMax1, qMin1, qAppend, qExtend, tints_TI, dv_TI, Option.bind_some, qRetN, atI_0, atI_1, atI_2, mk_appT, mk_snocI, idl, rep_I, Option.map_none, eqv_idl, shaped_idl, Bool.and_self, Bool.true_and, Bool.and_true]))
local macro_rules | `(tactic| walk_at "F") => `(tactic| (try simp only [qAsg, qRet, qDrop, qIfS, qTest, qAndT, qOrT, qNotT, qAndV, qOrV, qNotV, qIf, qOp, qUn, qChain, onB, qv, qc, qgN, qgT, qgCons, qgNil, qCons, qNil, qTup, qLst, qPar, qPar3, qAug, qCB, qCall, qLen, qTupleC, qListC, qMax2, qMin2, qIntC, qSum, qAny, qAll, qIsi, tyName, qAdd, qSub, qMul, qFdiv, qMod, qPow, qI2, qCmpI, qEq, qNe, qLt, qLe, qGt, qGe, qNeg, qIx, qDGet, qDIn, qDPut, qSl, qPart, qNoPart, qNext, qFor, qiRng1, qiRng2, qiZip, qiEnum, qLc, fz, newL, List.getElem?_cons_zero, List.getElem?_cons_succ, List.set_cons_zero, List.set_cons_succ, if_true, if_false, Bool.false_eq_true, ite_true, ite_false, up_same, reduceIte, decide_true, decide_false, true_and, and_true, eqv_int, eqv_bool, eqv_TI, eqv_LI, eqv_TT, eqv_LT, eqv_nilL, eqv_nilT, shaped_TI, shaped_LI, shaped_TT, shaped_LT, shaped_int, shaped_bool, shaped_nilL, shaped_nilT, dints_map2, dbools_map2, datas_map, mkT_map, mkT_0, mkT_1, mkT_2, mkT_3, List.length_map, List.length_cons, List.length_nil, List.length_append, List.map_cons, List.map_nil, wipeD, Bool.not_true, Bool.not_false, eq_self, not_true_eq_false, not_false_eq_true, kitB_tt, kitB_ll, kitB_dd, kitB_bb, kitB_ib, kitB_ii, kitB_ss, kitB_tl, kitB_lt, Function.comp, datas, Option.map_some, List.cons_append, List.nil_append, CPow, le_size4, Int.toNat_natCast, rngD0, I_eq, Bo_eq, BS.qSortB, in_IT, in_IL, in_TT, in_TL, qNotN, qIsN, qSortD, qListRg, qDispT, keyX_TI, qGet, qiItems, qLockE, qLockS, qPop, qMaxDf, qLc2, qMax1, qMin1, qAppend, qExtend, tints_TI, dv_TI, Option.bind_some, qRetN, atI_0, atI_1, atI_2, mk_appT, mk_snocI, idl, rep_I, Option.map_none, eqv_idl, shaped_idl, Bool.and_self, Bool.true_and, Bool.and_true]))
namespace UC
open PySem L2 DL RD
def sp_is_integer : SpD := fun xs st Q => ∃ i : Int, xs = [I i] ∧ Q (Bo true) st
theorem len_is_integer : ∀ xs st Q, sp_is_integer xs st Q → xs.length = 1 := by rintro xs st Q ⟨i, rfl, _⟩; rfl
theorem sem_is_integer : ∀ xs st Q, sp_is_integer xs st Q → rd_is_integer { nx := fun _ st' => Fg Q (.d .none) st', rt := Fg Q } (startD 1 xs) st := by
  rintro xs st Q ⟨i, rfl, K⟩
  have e0 : startD 1 [I i] = [some (I i)] := rfl
  rw [e0]
  unfold rd_is_integer
  walk_at "D"
  exact fg_ret K
end UC
end
section
set_option Elab.async false
set_option linter.all false
set_option maxRecDepth 100000
set_option maxHeartbeats 1000000
open PySem L2 DL RD UC
local macro_rules | `(tactic| walk_at "E") => `(tactic| (try simp only [qAsg, qRet, qDrop, qIfS, qTest, qAndT, qOrT, qNotT, qAndV, qOrV, qNotV, qIf, qOp, qUn, qChain, onB, qv, qc, qgN, qgT, qgCons, qgNil, qCons, qNil, qTup, qLst, qPar, qPar3, qAug, qCB, qCall, qLen, qTupleC, qListC, qMax2, qMin2, qIntC, qSum, qAny, qAll, qIsi, tyName, qAdd, qSub, qMul, qFdiv, qMod, qPow, qI2, qCmpI, qEq, qNe, qLt, qLe, qGt, qGe, qNeg, qIx, qDGet, qDIn, qDPut, qSl, qPart, qNoPart, qNext, qFor, qiSeq, qiRng1, qiRng2, qiZip, qiEnum, qLc, seqSrc, lsrc, titems, litems, sitems, fz, newL, List.getElem?_cons_zero, List.getElem?_cons_succ, List.set_cons_zero, List.set_cons_succ, if_true, if_false, Bool.false_eq_true, ite_true, ite_false, up_same, reduceIte, decide_true, decide_false, true_and, and_true]))
local macro_rules | `(tactic| walk_at "D") => `(tactic| (try simp only [qAsg, qRet, qDrop, qIfS, qTest, qAndT, qOrT, qNotT, qAndV, qOrV, qNotV, qIf, qOp, qUn, qChain, onB, qv, qc, qgN, qgT, qgCons, qgNil, qCons, qNil, qTup, qLst, qPar, qPar3, qAug, qCB, qCall, qLen, qTupleC, qListC, qMax2, qMin2, qIntC, qSum, qAny, qAll, qIsi, tyName, qAdd, qSub, qMul, qFdiv, qMod, qPow, qI2, qCmpI, qEq, qNe, qLt, qLe, qGt, qGe, qNeg, qIx, qDGet, qDIn, qDPut, qSl, qPart, qNoPart, qNext, qFor, qiSeq, qiRng1, qiRng2, qiZip, qiEnum, qLc, seqSrc, lsrc, titems, litems, sitems, fz, newL, List.getElem?_cons_zero, List.getElem?_cons_succ, List.set_cons_zero, List.set_cons_succ, if_true, if_false, Bool.false_eq_true, ite_true, ite_false, up_same, reduceIte, decide_true, decide_false, true_and, and_true, eqv_int, eqv_bool, eqv_TI, eqv_LI, eqv_TT, eqv_LT, eqv_nilL, eqv_nilT, shaped_TI, shaped_LI, shaped_TT, shaped_LT, shaped_int, shaped_bool, shaped_nilL, shaped_nilT, dints_map2, dbools_map2, datas_map, mkT_map, mkT_0, mkT_1, mkT_2, mkT_3, List.length_map, List.length_cons, List.length_nil, List.length_append, List.map_cons, List.map_nil, wipeD, Bool.not_true, Bool.not_false, eq_self, not_true_eq_false, not_false_eq_true, kitB_tt, kitB_ll, kitB_dd, kitB_bb, kitB_ib, kitB_ii, kitB_ss, kitB_tl, kitB_lt, Function.comp, datas, Option.map_some, List.cons_append, List.nil_append, CPow, le_size4, Int.toNat_natCast, rngD0, I_eq, Bo_eq, BS.qSortB, in_IT, in_IL, in_TT, in_TL, qNotN, qIsN, qSortD, qListRg, qDispT, keyX_TI, qGet, qiItems, qLockE, qLockS, qPop, qMaxDf, qLc2, qMax1, qMin1, qAppend, qExtend, tints_TI, dv_TI, Option.bind_some, qRetN, atI_0, atI_1, atI_2, mk_appT, mk_snocI, idl, rep_I, Option.map_none, eqv_idl, shaped_idl, Bool.and_self, Bool.true_and, Bool.and_true]))
local macro_rules | `(tactic| walk_at "F") => `(tactic| (try simp only [qAsg, qRet, qDrop, qIfS, qTest, qAndT, qOrT, qNotT, qAndV, qOrV, qNotV, qIf, qOp, qUn, qChain, onB, qv, qc, qgN, qgT, qgCons, qgNil, qCons, qNil, qTup, qLst, qPar, qPar3, qAug, qCB, qCall, qLen, qTupleC, qListC, qMax2, qMin2, qIntC, qSum, qAny, qAll, qIsi, tyName, qAdd, qSub, qMul, qFdiv, qMod, qPow, qI2, qCmpI, qEq, qNe, qLt, qLe, qGt, qGe, qNeg, qIx, qDGet, qDIn, qDPut, qSl, qPart, qNoPart, qNext, qFor, qiRng1, qiRng2, qiZip, qiEnum, qLc, fz, newL, List.getElem?_cons_zero, List.getElem?_cons_succ, List.set_cons_zero, List.set_cons_succ, if_true, if_false, Bool.false_eq_true, ite_true, ite_false, up_same, reduceIte, decide_true, decide_false, true_and, and_true, eqv_int, eqv_bool, eqv_TI, eqv_LI, eqv_TT, eqv_LT, eqv_nilL, eqv_nilT, shaped_TI, shaped_LI, shaped_TT, shaped_LT, shaped_int, shaped_bool, shaped_nilL, shaped_nilT, dints_map2, dbools_map2, datas_map, mkT_map, mkT_0, mkT_1, mkT_2, mkT_3, List.length_map, List.length_cons, List.length_nil, List.length_append, List.map_cons, List.map_nil, wipeD, Bool.not_true, Bool.not_false, eq_self, not_true_eq_false, not_false_eq_true, kitB_tt, kitB_ll, kitB_dd, kitB_bb, kitB_ib, kitB_ii, kitB_ss, kitB_tl, kitB_lt, Function.comp, datas, Option.map_some, List.cons_append, List.nil_append, CPow, le_size4, Int.toNat_natCast, rngD0, I_eq, Bo_eq, BS.qSortB, in_IT, in_IL, in_TT, in_TL, qNotN, qIsN, qSortD, qListRg, qDispT, keyX_TI, qGet, qiItems, qLockE, qLockS, qPop, qMaxDf, qLc2, qMax1, qMin1, qAppend, qExtend, tints_TI, dv_TI, Option.bind_some, qRetN, atI_0, atI_1, atI_2, mk_appT, mk_snocI, idl, rep_I, Option.map_none, eqv_idl, shaped_idl, Bool.and_self, Bool.true_and, Bool.and_true]))
namespace UC
open PySem L2 DL RD
theorem lexLt_eq : ∀ a b : List Int, HT.lexLt a b = lexL a b
  | [], [] => rfl
  | [], _ :: _ => rfl
  | _ :: _, [] => rfl
  | x :: a, y :: b => by
    rw [HT.lexLt_cons, lexL, lexLt_eq a b]
    by_cases h : x = y
    · subst h; simp
    · simp [h]
theorem enumD_of {α : Type} (f : α → PyData) : ∀ (a : List α), enumD ((a.map f).map DV.d) = a.zipIdx.map fun p => DV.d (.tuple [.int p.2, f p.1]) := by
  intro a
  unfold enumD
  rw [List.map_map, List.mapIdx_eq_zipIdx_map, List.zipIdx_map, List.map_map]
  rfl
theorem cutD_take {α : Type} (xs : List α) (k : Nat) : cutD xs none (some (k : Int)) = xs.take k := by
  unfold cutD
  rw [HT.sIx_nat, HT.sIx_none, Nat.sub_zero, List.drop_zero]
  by_cases h : k ≤ xs.length
  · rw [Nat.min_eq_left h]
  · rw [Nat.min_eq_right (by omega), List.take_length, List.take_of_length_le (by omega)]
def sp_is_monomial : SpD := fun xs st Q => ∃ (a : List Int) (n : Nat), xs = [.d (TI a), I n] ∧ Mon n 60 a ∧ Q (Bo true) st
theorem len_is_monomial : ∀ xs st Q, sp_is_monomial xs st Q → xs.length = 2 := by rintro xs st Q ⟨i, n, rfl, _⟩; rfl
theorem sem_is_monomial : ∀ xs st Q, sp_is_monomial xs st Q → rd_is_monomial sp_is_integer { nx := fun _ st' => Fg Q (.d .none) st', rt := Fg Q } (startD 3 xs) st := by
  rintro xs st Q ⟨a, n, rfl, ha, K⟩
  have e0 : startD 3 [.d (TI a), I n] = [some (.d (TI a)), some (I n), none] := rfl
  rw [e0]
  unfold rd_is_monomial
  have la := ha.1
  refine seq fun N hN => ?_
  walk_at "D"
  simp only [la, decide_true, Bool.not_true]
  walk_at "D"
  refine hN _ _ ?_; clear hN N
  refine seq fun N hN => ?_
  walk_at "D"
  rw [List.map_map]
  refine for_byT _ (fun _ ε s => s = st ∧ ∃ y, ε = [some (.d (TI a)), some (I n), y]) ⟨rfl, _, rfl⟩ (fun _ _ _ _ => trivial) ?_ ?_
  · rintro i e ε s he ⟨rfl, y, rfl⟩ L hL
    have := ha.2 e (List.mem_of_getElem? he)
    walk_at "D"
    refine ⟨e, rfl, ?_⟩
    walk_at "D"
    simp only [this.1, this.2, decide_true, Bool.not_true]
    walk_at "D"
    exact hL _ _ ⟨rfl, _, rfl⟩
  rintro ε s ⟨rfl, y, rfl⟩
  refine hN _ _ ?_; clear hN N
  walk_at "D"
  exact fg_ret K
def sp_has_form : SpD := fun xs st Q => ∃ (A : List (List Int)) (n : Nat), xs = [.d (idl n A)] ∧ 1 ≤ n ∧ n ≤ 12 ∧ Q (Bo true) st
theorem len_has_form : ∀ xs st Q, sp_has_form xs st Q → xs.length = 1 := by rintro xs st Q ⟨A, n, rfl, _⟩; rfl
theorem sem_has_form : ∀ xs st Q, sp_has_form xs st Q → rd_has_form sp_is_integer { nx := fun _ st' => Fg Q (.d .none) st', rt := Fg Q } (startD 1 xs) st := by
  rintro xs st Q ⟨A, n, rfl, h1, h2, K⟩
  have e0 : startD 1 [.d (idl n A)] = [some (.d (idl n A))] := rfl
  rw [e0]
  unfold rd_has_form
  refine seq fun N hN => ?_
  walk_at "D"
  have e2 : (((0 + 1 + 1 : Nat) : Int) = 2) = True := by simp
  simp only [e2, decide_true, Bool.not_true]
  walk_at "D"
  refine hN _ _ ?_; clear hN N
  walk_at "D"
  have g1 : (1 : Int) ≤ n := by omega
  have g2 : (n : Int) ≤ 12 := by omega
  refine ⟨n, rfl, ?_⟩
  walk_at "D"
  simp only [g1, g2, decide_true]
  walk_at "D"
  exact fg_ret K
/-- the ideals of the document -/
def Ideal (n : Nat) (A : List (List Int)) : Prop := 1 ≤ n ∧ n ≤ 12 ∧ Idl n 60 60 A
def sp_breach : SpD := fun xs st Q => ∃ (A : List (List Int)) (n : Nat), xs = [.d (idl n A)] ∧ Ideal n A ∧ Q (.d .none) st
theorem len_breach : ∀ xs st Q, sp_breach xs st Q → xs.length = 1 := by rintro xs st Q ⟨A, n, rfl, _⟩; rfl
theorem sem_breach : ∀ xs st Q, sp_breach xs st Q → rd_breach sp_has_form sp_is_monomial sp_divides { nx := fun _ st' => Fg Q (.d .none) st', rt := Fg Q } (startD 6 xs) st := by
  rintro xs st Q ⟨A, n, rfl, ⟨h1, h2, hA⟩, K⟩
  have e0 : startD 6 [.d (idl n A)] = [some (.d (idl n A)), none, none, none, none, none] := rfl
  rw [e0]
  unfold rd_breach
  have lA := hA.len
  have cA := hA.2.1
  have M := mins_minL lA
  rw [hA.1] at M
  refine seq fun N hN => ?_
  walk_at "D"
  refine ⟨A, n, rfl, h1, h2, ?_⟩
  walk_at "D"
  refine hN _ _ ?_; clear hN N
  refine seq fun N hN => ?_
  walk_at "D"
  refine hN _ _ ?_; clear hN N
  refine seq fun N hN => ?_
  walk_at "D"
  rw [enumD_of]
  refine for_byT _ (fun _ ε s => s = st ∧ ∃ y3 y4, ε = [some (.d (idl n A)), some (I n), some (.d (TT A)), y3, y4, none]) ⟨rfl, _, _, rfl⟩ (fun _ _ _ _ => trivial) ?_ ?_
  · rintro i z ε s hz ⟨rfl, y3, y4, rfl⟩ L hL
    have hzA : z.1 ∈ A := by
      have := List.mem_of_getElem? hz
      exact (List.mem_zipIdx' (x := z.1) (i := z.2) this).2 ▸ List.getElem_mem _
    walk_at "D"
    refine ⟨z.1, n, rfl, hA.2.2 _ hzA, ?_⟩
    walk_at "D"
    exact hL _ _ ⟨rfl, _, _, rfl⟩
  rintro ε s ⟨rfl, y3, y4, rfl⟩
  refine hN _ _ ?_; clear hN N
  refine seq fun N hN => ?_
  walk_at "D"
  refine ⟨⟨by decide, by decide, by omega, by omega⟩, ?_⟩
  unfold rngD
  refine for_byT _ (fun _ ε s' => s' = s ∧ ∃ y3 y4, ε = [some (.d (idl n A)), some (I n), some (.d (TT A)), y3, y4, none]) ⟨rfl, _, _, rfl⟩ (fun _ _ _ _ => trivial) ?_ ?_
  · rintro i j ε s hj ⟨rfl, y3, y4, rfl⟩ L hL
    obtain ⟨rfl, hi⟩ := range_some hj
    have k1 : j < A.length := by omega
    have k2 : j + 1 < A.length := by omega
    have e1 : (1 + (j : Int)) = ((j + 1 : Nat) : Int) := by omega
    have e2 : (((j + 1 : Nat) : Int) - 1) = (j : Int) := by omega
    rw [e1]
    walk_at "D"
    simp only [e2, atI_map2 k1, atI_map2 k2]
    walk_at "D"
    rw [lexLt_eq, List.pairwise_iff_getElem.mp M.ris j (j + 1) k1 k2 (by omega)]
    walk_at "D"
    exact hL _ _ ⟨rfl, _, _, rfl⟩
  rintro ε s ⟨rfl, z3, z4, rfl⟩
  refine hN _ _ ?_; clear hN N
  refine seq fun N hN => ?_
  walk_at "D"
  rw [enumD_of]
  refine for_byT _ (fun _ ε s' => s' = s ∧ ∃ y3 y4 y5, ε = [some (.d (idl n A)), some (I n), some (.d (TT A)), y3, y4, y5]) ⟨rfl, _, _, _, rfl⟩ (fun _ _ _ _ => trivial) ?_ ?_
  · rintro i z ε s hz ⟨rfl, y3, y4, y5, rfl⟩ L hL
    obtain ⟨hi, hzi⟩ := List.getElem?_eq_some_iff.mp hz
    rw [List.length_zipIdx] at hi
    rw [List.getElem_zipIdx] at hzi
    have hz2 : z = (A[i], i) := by rw [← hzi]; simp
    subst hz2
    walk_at "D"
    simp only [cutD_map]
    walk_at "D"
    rw [cutD_take]
    rw [List.map_map]
    refine for_byT _ (fun _ ε s' => s' = s ∧ ∃ y5, ε = [some (.d (idl n A)), some (I n), some (.d (TT A)), some (I i), some (.d (TI A[i])), y5]) ⟨rfl, _, rfl⟩ (fun _ _ _ _ => trivial) ?_ ?_
    · rintro j o ε s' ho ⟨rfl, y5, rfl⟩ L2 hL2
      walk_at "D"
      refine ⟨o, A[i], rfl, ?_⟩
      have hoA : o ∈ A.take i := List.mem_of_getElem? ho
      have hno : divB o A[i] = false := by
        rw [Bool.eq_false_iff]
        intro h
        have e := M.anti o (List.mem_of_mem_take hoA) A[i] (List.getElem_mem hi) h
        obtain ⟨j, hj, e2⟩ := List.mem_take_iff_getElem.mp hoA
        have := List.pairwise_iff_getElem.mp M.ris j i (by omega) hi (by omega)
        rw [e2, e, lexL_irr] at this
        cases this
      rw [hno]
      walk_at "D"
      exact hL2 _ _ ⟨rfl, _, rfl⟩
    · rintro ε s' ⟨rfl, y5, rfl⟩
      exact hL _ _ ⟨rfl, _, _, _, rfl⟩
  rintro ε s ⟨rfl, w3, w4, w5, rfl⟩
  refine hN _ _ ?_; clear hN N
  refine seq fun N hN => ?_
  walk_at "D"
  have g1 : ¬ (60 : Int) < A.length := by omega
  simp only [g1, decide_false]
  walk_at "D"
  refine hN _ _ ?_; clear hN N
  walk_at "D"
  exact fg_ret K
def sp_check_ideal : SpD := fun xs st Q => ∃ (A : List (List Int)) (n : Nat), xs = [.d (idl n A)] ∧ Ideal n A ∧ Q (.d (idl n A)) st
theorem len_check_ideal : ∀ xs st Q, sp_check_ideal xs st Q → xs.length = 1 := by rintro xs st Q ⟨A, n, rfl, _⟩; rfl
theorem sem_check_ideal : ∀ xs st Q, sp_check_ideal xs st Q → rd_check_ideal sp_breach { nx := fun _ st' => Fg Q (.d .none) st', rt := Fg Q } (startD 2 xs) st := by
  rintro xs st Q ⟨A, n, rfl, hA, K⟩
  have e0 : startD 2 [.d (idl n A)] = [some (.d (idl n A)), none] := rfl
  rw [e0]
  unfold rd_check_ideal
  refine seq fun N hN => ?_
  walk_at "D"
  refine ⟨A, n, rfl, hA, hN _ _ ?_⟩; clear hN N
  refine seq fun N hN => ?_
  walk_at "D"
  exact hN _ _ (fg_ret K)
end UC
end
section
set_option Elab.async false
set_option linter.all false
set_option maxRecDepth 100000
set_option maxHeartbeats 1000000
open PySem L2 DL RD UC
local macro_rules | `(tactic| walk_at "E") => `(tactic| (try simp only [qAsg, qRet, qDrop, qIfS, qTest, qAndT, qOrT, qNotT, qAndV, qOrV, qNotV, qIf, qOp, qUn, qChain, onB, qv, qc, qgN, qgT, qgCons, qgNil, qCons, qNil, qTup, qLst, qPar, qPar3, qAug, qCB, qCall, qLen, qTupleC, qListC, qMax2, qMin2, qIntC, qSum, qAny, qAll, qIsi, tyName, qAdd, qSub, qMul, qFdiv, qMod, qPow, qI2, qCmpI, qEq, qNe, qLt, qLe, qGt, qGe, qNeg, qIx, qDGet, qDIn, qDPut, qSl, qPart, qNoPart, qNext, qFor, qiSeq, qiRng1, qiRng2, qiZip, qiEnum, qLc, seqSrc, lsrc, titems, litems, sitems, fz, newL, List.getElem?_cons_zero, List.getElem?_cons_succ, List.set_cons_zero, List.set_cons_succ, if_true, if_false, Bool.false_eq_true, ite_true, ite_false, up_same, reduceIte, decide_true, decide_false, true_and, and_true]))
local macro_rules | `(tactic| walk_at "D") => `(tactic| (try simp only [qAsg, qRet, qDrop, qIfS, qTest, qAndT, qOrT, qNotT, qAndV, qOrV, qNotV, qIf, qOp, qUn, qChain, onB, qv, qc, qgN, qgT, qgCons, qgNil, qCons, qNil, qTup, qLst, qPar, qPar3, qAug, qCB, qCall, qLen, qTupleC, qListC, qMax2, qMin2, qIntC, qSum, qAny, qAll, qIsi, tyName, qAdd, qSub, qMul, qFdiv, qMod, qPow, qI2, qCmpI, qEq, qNe, qLt, qLe, qGt, qGe, qNeg, qIx, qDGet, qDIn, qDPut, qSl, qPart, qNoPart, qNext, qFor, qiSeq, qiRng1, qiRng2, qiZip, qiEnum, qLc, seqSrc, lsrc, titems, litems, sitems, fz, newL, List.getElem?_cons_zero, List.getElem?_cons_succ, List.set_cons_zero, List.set_cons_succ, if_true, if_false, Bool.false_eq_true, ite_true, ite_false, up_same, reduceIte, decide_true, decide_false, true_and, and_true, eqv_int, eqv_bool, eqv_TI, eqv_LI, eqv_TT, eqv_LT, eqv_nilL, eqv_nilT, shaped_TI, shaped_LI, shaped_TT, shaped_LT, shaped_int, shaped_bool, shaped_nilL, shaped_nilT, dints_map2, dbools_map2, datas_map, mkT_map, mkT_0, mkT_1, mkT_2, mkT_3, List.length_map, List.length_cons, List.length_nil, List.length_append, List.map_cons, List.map_nil, wipeD, Bool.not_true, Bool.not_false, eq_self, not_true_eq_false, not_false_eq_true, kitB_tt, kitB_ll, kitB_dd, kitB_bb, kitB_ib, kitB_ii, kitB_ss, kitB_tl, kitB_lt, Function.comp, datas, Option.map_some, List.cons_append, List.nil_append, CPow, le_size4, Int.toNat_natCast, rngD0, I_eq, Bo_eq, BS.qSortB, in_IT, in_IL, in_TT, in_TL, qNotN, qIsN, qSortD, qListRg, qDispT, keyX_TI, qGet, qiItems, qLockE, qLockS, qPop, qMaxDf, qLc2, qMax1, qMin1, qAppend, qExtend, tints_TI, dv_TI, Option.bind_some, qRetN, atI_0, atI_1, atI_2, mk_appT, mk_snocI, idl, rep_I, Option.map_none, eqv_idl, shaped_idl, Bool.and_self, Bool.true_and, Bool.and_true]))
local macro_rules | `(tactic| walk_at "F") => `(tactic| (try simp only [qAsg, qRet, qDrop, qIfS, qTest, qAndT, qOrT, qNotT, qAndV, qOrV, qNotV, qIf, qOp, qUn, qChain, onB, qv, qc, qgN, qgT, qgCons, qgNil, qCons, qNil, qTup, qLst, qPar, qPar3, qAug, qCB, qCall, qLen, qTupleC, qListC, qMax2, qMin2, qIntC, qSum, qAny, qAll, qIsi, tyName, qAdd, qSub, qMul, qFdiv, qMod, qPow, qI2, qCmpI, qEq, qNe, qLt, qLe, qGt, qGe, qNeg, qIx, qDGet, qDIn, qDPut, qSl, qPart, qNoPart, qNext, qFor, qiRng1, qiRng2, qiZip, qiEnum, qLc, fz, newL, List.getElem?_cons_zero, List.getElem?_cons_succ, List.set_cons_zero, List.set_cons_succ, if_true, if_false, Bool.false_eq_true, ite_true, ite_false, up_same, reduceIte, decide_true, decide_false, true_and, and_true, eqv_int, eqv_bool, eqv_TI, eqv_LI, eqv_TT, eqv_LT, eqv_nilL, eqv_nilT, shaped_TI, shaped_LI, shaped_TT, shaped_LT, shaped_int, shaped_bool, shaped_nilL, shaped_nilT, dints_map2, dbools_map2, datas_map, mkT_map, mkT_0, mkT_1, mkT_2, mkT_3, List.length_map, List.length_cons, List.length_nil, List.length_append, List.map_cons, List.map_nil, wipeD, Bool.not_true, Bool.not_false, eq_self, not_true_eq_false, not_false_eq_true, kitB_tt, kitB_ll, kitB_dd, kitB_bb, kitB_ib, kitB_ii, kitB_ss, kitB_tl, kitB_lt, Function.comp, datas, Option.map_some, List.cons_append, List.nil_append, CPow, le_size4, Int.toNat_natCast, rngD0, I_eq, Bo_eq, BS.qSortB, in_IT, in_IL, in_TT, in_TL, qNotN, qIsN, qSortD, qListRg, qDispT, keyX_TI, qGet, qiItems, qLockE, qLockS, qPop, qMaxDf, qLc2, qMax1, qMin1, qAppend, qExtend, tints_TI, dv_TI, Option.bind_some, qRetN, atI_0, atI_1, atI_2, mk_appT, mk_snocI, idl, rep_I, Option.map_none, eqv_idl, shaped_idl, Bool.and_self, Bool.true_and, Bool.and_true]))
namespace UC
open PySem L2 DL RD
end UC
end
section
set_option Elab.async false
set_option linter.all false
set_option maxRecDepth 100000
set_option maxHeartbeats 1000000
open PySem L2 DL RD UC
local macro_rules | `(tactic| walk_at "E") => `(tactic| (try simp only [qAsg, qRet, qDrop, qIfS, qTest, qAndT, qOrT, qNotT, qAndV, qOrV, qNotV, qIf, qOp, qUn, qChain, onB, qv, qc, qgN, qgT, qgCons, qgNil, qCons, qNil, qTup, qLst, qPar, qPar3, qAug, qCB, qCall, qLen, qTupleC, qListC, qMax2, qMin2, qIntC, qSum, qAny, qAll, qIsi, tyName, qAdd, qSub, qMul, qFdiv, qMod, qPow, qI2, qCmpI, qEq, qNe, qLt, qLe, qGt, qGe, qNeg, qIx, qDGet, qDIn, qDPut, qSl, qPart, qNoPart, qNext, qFor, qiSeq, qiRng1, qiRng2, qiZip, qiEnum, qLc, seqSrc, lsrc, titems, litems, sitems, fz, newL, List.getElem?_cons_zero, List.getElem?_cons_succ, List.set_cons_zero, List.set_cons_succ, if_true, if_false, Bool.false_eq_true, ite_true, ite_false, up_same, reduceIte, decide_true, decide_false, true_and, and_true]))
local macro_rules | `(tactic| walk_at "D") => `(tactic| (try simp only [qAsg, qRet, qDrop, qIfS, qTest, qAndT, qOrT, qNotT, qAndV, qOrV, qNotV, qIf, qOp, qUn, qChain, onB, qv, qc, qgN, qgT, qgCons, qgNil, qCons, qNil, qTup, qLst, qPar, qPar3, qAug, qCB, qCall, qLen, qTupleC, qListC, qMax2, qMin2, qIntC, qSum, qAny, qAll, qIsi, tyName, qAdd, qSub, qMul, qFdiv, qMod, qPow, qI2, qCmpI, qEq, qNe, qLt, qLe, qGt, qGe, qNeg, qIx, qDGet, qDIn, qDPut, qSl, qPart, qNoPart, qNext, qFor, qiSeq, qiRng1, qiRng2, qiZip, qiEnum, qLc, seqSrc, lsrc, titems, litems, sitems, fz, newL, List.getElem?_cons_zero, List.getElem?_cons_succ, List.set_cons_zero, List.set_cons_succ, if_true, if_false, Bool.false_eq_true, ite_true, ite_false, up_same, reduceIte, decide_true, decide_false, true_and, and_true, eqv_int, eqv_bool, eqv_TI, eqv_LI, eqv_TT, eqv_LT, eqv_nilL, eqv_nilT, shaped_TI, shaped_LI, shaped_TT, shaped_LT, shaped_int, shaped_bool, shaped_nilL, shaped_nilT, dints_map2, dbools_map2, datas_map, mkT_map, mkT_0, mkT_1, mkT_2, mkT_3, List.length_map, List.length_cons, List.length_nil, List.length_append, List.map_cons, List.map_nil, wipeD, Bool.not_true, Bool.not_false, eq_self, not_true_eq_false, not_false_eq_true, kitB_tt, kitB_ll, kitB_dd, kitB_bb, kitB_ib, kitB_ii, kitB_ss, kitB_tl, kitB_lt, Function.comp, datas, Option.map_some, List.cons_append, List.nil_append, CPow, le_size4, Int.toNat_natCast, rngD0, I_eq, Bo_eq, BS.qSortB, in_IT, in_IL, in_TT, in_TL, qNotN, qIsN, qSortD, qListRg, qDispT, keyX_TI, qGet, qiItems, qLockE, qLockS, qPop, qMaxDf, qLc2, qMax1, qMin1, qAppend, qExtend, tints_TI, dv_TI, Option.bind_some, qRetN, atI_0, atI_1, atI_2, mk_appT, mk_snocI, idl, rep_I, Option.map_none, eqv_idl, shaped_idl, Bool.and_self, Bool.true_and, Bool.and_true]))
local macro_rules | `(tactic| walk_at "F") => `(tactic| (try simp only [qAsg, qRet, qDrop, qIfS, qTest, qAndT, qOrT, qNotT, qAndV, qOrV, qNotV, qIf, qOp, qUn, qChain, onB, qv, qc, qgN, qgT, qgCons, qgNil, qCons, qNil, qTup, qLst, qPar, qPar3, qAug, qCB, qCall, qLen, qTupleC, qListC, qMax2, qMin2, qIntC, qSum, qAny, qAll, qIsi, tyName, qAdd, qSub, qMul, qFdiv, qMod, qPow, qI2, qCmpI, qEq, qNe, qLt, qLe, qGt, qGe, qNeg, qIx, qDGet, qDIn, qDPut, qSl, qPart, qNoPart, qNext, qFor, qiRng1, qiRng2, qiZip, qiEnum, qLc, fz, newL, List.getElem?_cons_zero, List.getElem?_cons_succ, List.set_cons_zero, List.set_cons_succ, if_true, if_false, Bool.false_eq_true, ite_true, ite_false, up_same, reduceIte, decide_true, decide_false, true_and, and_true, eqv_int, eqv_bool, eqv_TI, eqv_LI, eqv_TT, eqv_LT, eqv_nilL, eqv_nilT, shaped_TI, shaped_LI, shaped_TT, shaped_LT, shaped_int, shaped_bool, shaped_nilL, shaped_nilT, dints_map2, dbools_map2, datas_map, mkT_map, mkT_0, mkT_1, mkT_2, mkT_3, List.length_map, List.length_cons, List.length_nil, List.length_append, List.map_cons, List.map_nil, wipeD, Bool.not_true, Bool.not_false, eq_self, not_true_eq_false, not_false_eq_true, kitB_tt, kitB_ll, kitB_dd, kitB_bb, kitB_ib, kitB_ii, kitB_ss, kitB_tl, kitB_lt, Function.comp, datas, Option.map_some, List.cons_append, List.nil_append, CPow, le_size4, Int.toNat_natCast, rngD0, I_eq, Bo_eq, BS.qSortB, in_IT, in_IL, in_TT, in_TL, qNotN, qIsN, qSortD, qListRg, qDispT, keyX_TI, qGet, qiItems, qLockE, qLockS, qPop, qMaxDf, qLc2, qMax1, qMin1, qAppend, qExtend, tints_TI, dv_TI, Option.bind_some, qRetN, atI_0, atI_1, atI_2, mk_appT, mk_snocI, idl, rep_I, Option.map_none, eqv_idl, shaped_idl, Bool.and_self, Bool.true_and, Bool.and_true]))
namespace UC
open PySem L2 DL RD
end UC
end
section
set_option Elab.async false
set_option linter.all false
set_option maxRecDepth 100000
set_option maxHeartbeats 1000000
open PySem L2 DL RD UC
local macro_rules | `(tactic| walk_at "E") => `(tactic| (try simp only [qAsg, qRet, qDrop, qIfS, qTest, qAndT, qOrT, qNotT, qAndV, qOrV, qNotV, qIf, qOp, qUn, qChain, onB, qv, qc, qgN, qgT, qgCons, qgNil, qCons, qNil, qTup, qLst, qPar, qPar3, qAug, qCB, qCall, qLen, qTupleC, qListC, qMax2, qMin2, qIntC, qSum, qAny, qAll, qIsi, tyName, qAdd, qSub, qMul, qFdiv, qMod, qPow, qI2, qCmpI, qEq, qNe, qLt, qLe, qGt, qGe, qNeg, qIx, qDGet, qDIn, qDPut, qSl, qPart, qNoPart, qNext, qFor, qiSeq, qiRng1, qiRng2, qiZip, qiEnum, qLc, seqSrc, lsrc, titems, litems, sitems, fz, newL, List.getElem?_cons_zero, List.getElem?_cons_succ, List.set_cons_zero, List.set_cons_succ, if_true, if_false, Bool.false_eq_true, ite_true, ite_false, up_same, reduceIte, decide_true, decide_false, true_and, and_true]))
local macro_rules | `(tactic| walk_at "D") => `(tactic| (try simp only [qAsg, qRet, qDrop, qIfS, qTest, qAndT, qOrT, qNotT, qAndV, qOrV, qNotV, qIf, qOp, qUn, qChain, onB, qv, qc, qgN, qgT, qgCons, qgNil, qCons, qNil, qTup, qLst, qPar, qPar3, qAug, qCB, qCall, qLen, qTupleC, qListC, qMax2, qMin2, qIntC, qSum, qAny, qAll, qIsi, tyName, qAdd, qSub, qMul, qFdiv, qMod, qPow, qI2, qCmpI, qEq, qNe, qLt, qLe, qGt, qGe, qNeg, qIx, qDGet, qDIn, qDPut, qSl, qPart, qNoPart, qNext, qFor, qiSeq, qiRng1, qiRng2, qiZip, qiEnum, qLc, seqSrc, lsrc, titems, litems, sitems, fz, newL, List.getElem?_cons_zero, List.getElem?_cons_succ, List.set_cons_zero, List.set_cons_succ, if_true, if_false, Bool.false_eq_true, ite_true, ite_false, up_same, reduceIte, decide_true, decide_false, true_and, and_true, eqv_int, eqv_bool, eqv_TI, eqv_LI, eqv_TT, eqv_LT, eqv_nilL, eqv_nilT, shaped_TI, shaped_LI, shaped_TT, shaped_LT, shaped_int, shaped_bool, shaped_nilL, shaped_nilT, dints_map2, dbools_map2, datas_map, mkT_map, mkT_0, mkT_1, mkT_2, mkT_3, List.length_map, List.length_cons, List.length_nil, List.length_append, List.map_cons, List.map_nil, wipeD, Bool.not_true, Bool.not_false, eq_self, not_true_eq_false, not_false_eq_true, kitB_tt, kitB_ll, kitB_dd, kitB_bb, kitB_ib, kitB_ii, kitB_ss, kitB_tl, kitB_lt, Function.comp, datas, Option.map_some, List.cons_append, List.nil_append, CPow, le_size4, Int.toNat_natCast, rngD0, I_eq, Bo_eq, BS.qSortB, in_IT, in_IL, in_TT, in_TL, qNotN, qIsN, qSortD, qListRg, qDispT, keyX_TI, qGet, qiItems, qLockE, qLockS, qPop, qMaxDf, qLc2, qMax1, qMin1, qAppend, qExtend, tints_TI, dv_TI, Option.bind_some, qRetN, atI_0, atI_1, atI_2, mk_appT, mk_snocI, idl, rep_I, Option.map_none, eqv_idl, shaped_idl, Bool.and_self, Bool.true_and, Bool.and_true]))
local macro_rules | `(tactic| walk_at "F") => `(tactic| (try simp only [qAsg, qRet, qDrop, qIfS, qTest, qAndT, qOrT, qNotT, qAndV, qOrV, qNotV, qIf, qOp, qUn, qChain, onB, qv, qc, qgN, qgT, qgCons, qgNil, qCons, qNil, qTup, qLst, qPar, qPar3, qAug, qCB, qCall, qLen, qTupleC, qListC, qMax2, qMin2, qIntC, qSum, qAny, qAll, qIsi, tyName, qAdd, qSub, qMul, qFdiv, qMod, qPow, qI2, qCmpI, qEq, qNe, qLt, qLe, qGt, qGe, qNeg, qIx, qDGet, qDIn, qDPut, qSl, qPart, qNoPart, qNext, qFor, qiRng1, qiRng2, qiZip, qiEnum, qLc, fz, newL, List.getElem?_cons_zero, List.getElem?_cons_succ, List.set_cons_zero, List.set_cons_succ, if_true, if_false, Bool.false_eq_true, ite_true, ite_false, up_same, reduceIte, decide_true, decide_false, true_and, and_true, eqv_int, eqv_bool, eqv_TI, eqv_LI, eqv_TT, eqv_LT, eqv_nilL, eqv_nilT, shaped_TI, shaped_LI, shaped_TT, shaped_LT, shaped_int, shaped_bool, shaped_nilL, shaped_nilT, dints_map2, dbools_map2, datas_map, mkT_map, mkT_0, mkT_1, mkT_2, mkT_3, List.length_map, List.length_cons, List.length_nil, List.length_append, List.map_cons, List.map_nil, wipeD, Bool.not_true, Bool.not_false, eq_self, not_true_eq_false, not_false_eq_true, kitB_tt, kitB_ll, kitB_dd, kitB_bb, kitB_ib, kitB_ii, kitB_ss, kitB_tl, kitB_lt, Function.comp, datas, Option.map_some, List.cons_append, List.nil_append, CPow, le_size4, Int.toNat_natCast, rngD0, I_eq, Bo_eq, BS.qSortB, in_IT, in_IL, in_TT, in_TL, qNotN, qIsN, qSortD, qListRg, qDispT, keyX_TI, qGet, qiItems, qLockE, qLockS, qPop, qMaxDf, qLc2, qMax1, qMin1, qAppend, qExtend, tints_TI, dv_TI, Option.bind_some, qRetN, atI_0, atI_1, atI_2, mk_appT, mk_snocI, idl, rep_I, Option.map_none, eqv_idl, shaped_idl, Bool.and_self, Bool.true_and, Bool.and_true]))
namespace UC
open PySem L2 DL RD
end UC
end
section
set_option Elab.async false
set_option linter.all false
set_option maxRecDepth 100000
set_option maxHeartbeats 1000000
namespace UC
open PySem L2 DL RD
def xV (v : Nat) (b : List Int) : List Int := (List.range v).map fun (j : Nat) => if (j : Int) ∈ b then 1 else 0
theorem len_xV {v : Nat} {b : List Int} : (xV v b).length = v := by unfold xV; rw [List.length_map, List.length_range]
theorem gd_xV {v j : Nat} {b : List Int} (hj : j < v) : gd (xV v b) j = if (j : Int) ∈ b then 1 else 0 := by
  unfold xV gd
  rw [List.getD_eq_getElem?_getD, List.getElem?_map, List.getElem?_range hj]
  rfl
theorem unit_xV (v : Nat) (b : List Int) : Unit1 v (xV v b) := ⟨len_xV, fun j hj => by
  rw [gd_xV hj]
  split <;> simp⟩
theorem pos_xV {v j : Nat} {b : List Int} (hj : j < v) : 0 < gd (xV v b) j ↔ (j : Int) ∈ b := by
  rw [gd_xV hj]
  split <;> simp_all
theorem mon_unit {v : Nat} {q : List Int} (h : Unit1 v q) : Mon v 1 q := ⟨h.1, fun x hx => by
  obtain ⟨j, hj, e⟩ := List.mem_iff_getElem.mp hx
  rw [gd_eq hj] at e
  have := h.2 j (by rw [← h.1]; exact hj)
  omega⟩
theorem mon_xV (v : Nat) (b : List Int) : Mon v 1 (xV v b) := mon_unit (unit_xV v b)
theorem asc_supp (p : List Int) : Asc (suppL p) := by
  rw [supp_filter rfl]
  show List.Pairwise (· < ·) (List.map _ _)
  rw [List.pairwise_map]
  refine List.Pairwise.sublist List.filter_sublist (List.Pairwise.imp (fun {a b : Nat} (h : a < b) => ?_) List.pairwise_lt_range)
  omega
theorem low_supp {v : Nat} {p : List Int} (hp : p.length = v) : Low v (suppL p) := fun x hx => by
  obtain ⟨j, hj, _, rfl⟩ := (mem_supp hp).mp hx
  omega
theorem supp_xV {v : Nat} {b : List Int} (ha : Asc b) (hl : Low v b) : suppL (xV v b) = b := asc_ext (asc_supp _) ha fun x => by
  rw [mem_supp len_xV]
  constructor
  · rintro ⟨j, hj, h, rfl⟩
    exact (pos_xV hj).mp h
  · intro hx
    have := hl x hx
    refine ⟨x.toNat, by omega, (pos_xV (by omega)).mpr ?_, by omega⟩
    rw [show ((x.toNat : Nat) : Int) = x by omega]
    exact hx
theorem xV_supp {v : Nat} {q : List Int} (h : Unit1 v q) : xV v (suppL q) = q := (gd_ext len_xV h.1).mpr fun j hj => by
  rw [gd_xV hj]
  have := h.2 j hj
  split
  · rename_i z
    obtain ⟨i, hi, h1, h2⟩ := (mem_supp h.1).mp z
    rw [show j = i by omega] at this ⊢
    omega
  · rename_i z
    have : ¬ 0 < gd q j := fun k => z ((mem_supp h.1).mpr ⟨j, hj, k, rfl⟩)
    omega
theorem xV_inj {v : Nat} {a b : List Int} (ha : Asc a) (hl : Low v a) (hb : Asc b) (hk : Low v b) (e : xV v a = xV v b) : a = b := by
  rw [← supp_xV ha hl, e, supp_xV hb hk]
theorem div_xV {v : Nat} {a b : List Int} (hl : Low v a) : divB (xV v a) (xV v b) = true ↔ insB a b = true := by
  rw [divB_iff len_xV len_xV, insB_iff]
  constructor
  · intro h x hx
    have := hl x hx
    have h := h x.toNat (by omega)
    rw [gd_xV (by omega), gd_xV (by omega), show ((x.toNat : Nat) : Int) = x by omega, if_pos hx] at h
    refine Classical.byContradiction fun z => ?_
    rw [if_neg z] at h
    omega
  · intro h j hj
    rw [gd_xV hj, gd_xV hj]
    by_cases c : (j : Int) ∈ a
    · rw [if_pos c, if_pos (h _ c)]
      exact Int.le_refl _
    · rw [if_neg c]
      split <;> decide
theorem nf_cmp {v : Nat} {F : List (List Int)} (hF : AscL F) {b : List Int} (hb : Asc b) (hl : Low v b) : MinNF v F b ↔ cmpV v b ∈ alexF v F := by
  constructor
  · exact fun h => (alex_min hF).mpr ⟨b, h, rfl⟩
  · intro h
    obtain ⟨c, hc, e⟩ := (alex_min hF).mp h
    rw [← cmp_cmp hb hl, e, cmp_cmp hc.asc hc.low]
    exact hc
theorem nf_anti {v : Nat} {F : List (List Int)} (hF : AscL F) {b c : List Int} (hb : MinNF v F b) (hc : MinNF v F c) (h : insB b c = true) : b = c := by
  have e := (cx_alex v F).anti _ ((nf_cmp hF hc.asc hc.low).mp hc) _ ((nf_cmp hF hb.asc hb.low).mp hb) (cmp_anti h)
  rw [← cmp_cmp hb.asc hb.low, e, cmp_cmp hc.asc hc.low]
theorem nf_has {v : Nat} {F : List (List Int)} (hF : AscL F) {a : List Int} (ha : Asc a) (hl : Low v a) (hn : a ∉ facesF F) : ∃ b, MinNF v F b ∧ insB b a = true := by
  have h1 : cmpV v a ∈ alexS v F := mem_alexS.mpr ⟨asc_cmp v a, low_cmp v a, by rw [cmp_cmp ha hl]; exact hn⟩
  obtain ⟨d, hd, hi⟩ := max_up (fun a ha => (mem_alexS.mp ha).1) h1
  obtain ⟨b, hb, rfl⟩ := (alex_min hF).mp hd
  refine ⟨b, hb, ?_⟩
  have := cmp_anti (v := v) hi
  rwa [cmp_cmp ha hl, cmp_cmp hb.asc hb.low] at this
def srG (v : Nat) (F : List (List Int)) : List (List Int) := sortU ((alexF v F).map fun a => xV v (cmpV v a))
theorem mem_srG {v : Nat} {F : List (List Int)} (hF : AscL F) {g : List Int} : g ∈ srG v F ↔ ∃ b, MinNF v F b ∧ g = xV v b := by
  unfold srG
  rw [mem_sortU, List.mem_map]
  constructor
  · rintro ⟨a, ha, rfl⟩
    obtain ⟨b, hb, rfl⟩ := (alex_min hF).mp ha
    exact ⟨b, hb, by rw [cmp_cmp hb.asc hb.low]⟩
  · rintro ⟨b, hb, rfl⟩
    exact ⟨cmpV v b, (alex_min hF).mpr ⟨b, hb, rfl⟩, by rw [cmp_cmp hb.asc hb.low]⟩
theorem unit_srG {v : Nat} {F : List (List Int)} : ∀ g ∈ srG v F, Unit1 v g := fun g hg => by
  obtain ⟨a, _, rfl⟩ := List.mem_map.mp (mem_sortU.mp hg)
  exact unit_xV _ _
theorem ris_srG (v : Nat) (F : List (List Int)) : RisL (srG v F) := ris_sortU _
theorem sr_anti {v : Nat} {F : List (List Int)} (hF : AscL F) : ∀ s ∈ srG v F, ∀ t ∈ srG v F, divB s t = true → s = t := by
  intro s hs t ht h
  obtain ⟨b, hb, rfl⟩ := (mem_srG hF).mp hs
  obtain ⟨c, hc, rfl⟩ := (mem_srG hF).mp ht
  rw [nf_anti hF hb hc ((div_xV hb.low).mp h)]
theorem min_srG {v : Nat} {F : List (List Int)} (hF : AscL F) : minL (srG v F) = srG v F := by
  rw [min_anti (sr_anti hF)]
  exact sortU_eq (ris_srG v F) fun _ => Iff.rfl
/-- a list that has just the least non-faces -/
theorem sr_made {v : Nat} {F L : List (List Int)} (hF : AscL F) (h : ∀ b, b ∈ L ↔ MinNF v F b) : minL (L.map (xV v)) = srG v F := by
  have e : ∀ x, x ∈ L.map (xV v) ↔ x ∈ srG v F := fun x => by
    rw [List.mem_map, mem_srG hF]
    exact ⟨fun ⟨b, hb, z⟩ => ⟨b, (h b).mp hb, z.symm⟩, fun ⟨b, hb, z⟩ => ⟨b, (h b).mpr hb, z.symm⟩⟩
  rw [min_anti fun s hs t ht => sr_anti hF s ((e s).mp hs) t ((e t).mp ht)]
  exact sortU_eq (ris_srG v F) e
theorem in_sr {v : Nat} {F : List (List Int)} (hF : AscL F) {a : List Int} (ha : Asc a) (hl : Low v a) : inL (srG v F) (xV v a) = true ↔ a ∉ facesF F := by
  rw [inL_iff]
  constructor
  · rintro ⟨g, hg, h⟩
    obtain ⟨b, hb, rfl⟩ := (mem_srG hF).mp hg
    exact fun z => hb.no (down_face hF hb.asc z ((div_xV hb.low).mp h))
  · intro hn
    obtain ⟨b, hb, h⟩ := nf_has hF ha hl hn
    exact ⟨_, (mem_srG hF).mpr ⟨b, hb, rfl⟩, (div_xV hb.low).mpr h⟩
def cxS (n : Nat) (G : List (List Int)) : List (List Int) := (subsL (rangeI n)).filter fun a => !inL G (xV n a)
def cxI (n : Nat) (G : List (List Int)) : List (List Int) := maxF (cxS n G)
theorem mem_cxS {n : Nat} {G : List (List Int)} {a : List Int} : a ∈ cxS n G ↔ Asc a ∧ Low n a ∧ inL G (xV n a) = false := by
  unfold cxS
  rw [List.mem_filter, mem_subs, Bool.not_eq_true', ← and_assoc]
  refine and_congr_left fun _ => ⟨fun h => ⟨(asc_rngV n).sublist h, fun x hx => mem_rngV.mp (h.subset hx)⟩, fun h => asc_sub h.1 (asc_rngV n) fun x hx => mem_rngV.mpr (h.2 x hx)⟩
theorem asc_cxS {n : Nat} {G : List (List Int)} : AscL (cxS n G) := fun a ha => (mem_cxS.mp ha).1
theorem cx_cxI (n : Nat) (G : List (List Int)) : IsCx n (cxI n G) := cx_maxF asc_cxS fun a ha => (mem_cxS.mp ha).2.1
theorem inL_false {L : List (List Int)} {c : List Int} : inL L c = false ↔ ¬ inL L c = true := by simp
theorem mem_cxS_sr {v : Nat} {F : List (List Int)} (h : IsCx v F) {a : List Int} : a ∈ cxS v (srG v F) ↔ a ∈ facesF F := by
  rw [mem_cxS]
  constructor
  · rintro ⟨h1, h2, h3⟩
    exact Classical.byContradiction fun z => by rw [(in_sr h.asc h1 h2).mpr z] at h3; cases h3
  · intro ha
    have h1 := asc_faces h.asc a ha
    have h2 := low_faces h.low a ha
    exact ⟨h1, h2, inL_false.mpr fun z => (in_sr h.asc h1 h2).mp z ha⟩
theorem max_faces {v : Nat} {F : List (List Int)} (h : IsCx v F) : maxF (facesF F) = F := by
  rw [max_ext (S' := F) (asc_faces h.asc) h.asc (fun a ha => ((face_iff h.asc).mp ha).2) fun b hb => ⟨b, facet_face hb, insB_refl b⟩, h.max]
theorem maxF_congr {S S' : List (List Int)} (e : ∀ x, x ∈ S ↔ x ∈ S') : maxF S = maxF S' := ris_eq (ris_maxF _) (ris_maxF _) fun a => by
  rw [mem_maxF, mem_maxF, e a]
  exact and_congr_right fun _ => ⟨fun h b hb => h b ((e b).mpr hb), fun h b hb => h b ((e b).mp hb)⟩
theorem cxI_sr {v : Nat} {F : List (List Int)} (h : IsCx v F) : cxI v (srG v F) = F := by
  unfold cxI
  rw [maxF_congr fun x => mem_cxS_sr h, max_faces h]
end UC
end
section
set_option Elab.async false
set_option linter.all false
set_option maxRecDepth 100000
set_option maxHeartbeats 1000000
open PySem L2 DL RD UC
local macro_rules | `(tactic| walk_at "E") => `(tactic| (try simp only [qAsg, qRet, qDrop, qIfS, qTest, qAndT, qOrT, qNotT, qAndV, qOrV, qNotV, qIf, qOp, qUn, qChain, onB, qv, qc, qgN, qgT, qgCons, qgNil, qCons, qNil, qTup, qLst, qPar, qPar3, qAug, qCB, qCall, qLen, qTupleC, qListC, qMax2, qMin2, qIntC, qSum, qAny, qAll, qIsi, tyName, qAdd, qSub, qMul, qFdiv, qMod, qPow, qI2, qCmpI, qEq, qNe, qLt, qLe, qGt, qGe, qNeg, qIx, qDGet, qDIn, qDPut, qSl, qPart, qNoPart, qNext, qFor, qiSeq, qiRng1, qiRng2, qiZip, qiEnum, qLc, seqSrc, lsrc, titems, litems, sitems, fz, newL, List.getElem?_cons_zero, List.getElem?_cons_succ, List.set_cons_zero, List.set_cons_succ, if_true, if_false, Bool.false_eq_true, ite_true, ite_false, up_same, reduceIte, decide_true, decide_false, true_and, and_true]))
local macro_rules | `(tactic| walk_at "D") => `(tactic| (try simp only [qAsg, qRet, qDrop, qIfS, qTest, qAndT, qOrT, qNotT, qAndV, qOrV, qNotV, qIf, qOp, qUn, qChain, onB, qv, qc, qgN, qgT, qgCons, qgNil, qCons, qNil, qTup, qLst, qPar, qPar3, qAug, qCB, qCall, qLen, qTupleC, qListC, qMax2, qMin2, qIntC, qSum, qAny, qAll, qIsi, tyName, qAdd, qSub, qMul, qFdiv, qMod, qPow, qI2, qCmpI, qEq, qNe, qLt, qLe, qGt, qGe, qNeg, qIx, qDGet, qDIn, qDPut, qSl, qPart, qNoPart, qNext, qFor, qiSeq, qiRng1, qiRng2, qiZip, qiEnum, qLc, seqSrc, lsrc, titems, litems, sitems, fz, newL, List.getElem?_cons_zero, List.getElem?_cons_succ, List.set_cons_zero, List.set_cons_succ, if_true, if_false, Bool.false_eq_true, ite_true, ite_false, up_same, reduceIte, decide_true, decide_false, true_and, and_true, eqv_int, eqv_bool, eqv_TI, eqv_LI, eqv_TT, eqv_LT, eqv_nilL, eqv_nilT, shaped_TI, shaped_LI, shaped_TT, shaped_LT, shaped_int, shaped_bool, shaped_nilL, shaped_nilT, dints_map2, dbools_map2, datas_map, mkT_map, mkT_0, mkT_1, mkT_2, mkT_3, List.length_map, List.length_cons, List.length_nil, List.length_append, List.map_cons, List.map_nil, wipeD, Bool.not_true, Bool.not_false, eq_self, not_true_eq_false, not_false_eq_true, kitB_tt, kitB_ll, kitB_dd, kitB_bb, kitB_ib, kitB_ii, kitB_ss, kitB_tl, kitB_lt, Function.comp, datas, Option.map_some, List.cons_append, List.nil_append, CPow, le_size4, Int.toNat_natCast, rngD0, I_eq, Bo_eq, BS.qSortB, in_IT, in_IL, in_TT, in_TL, qNotN, qIsN, qSortD, qListRg, qDispT, keyX_TI, qGet, qiItems, qLockE, qLockS, qPop, qMaxDf, qLc2, qMax1, qMin1, qAppend, qExtend, tints_TI, dv_TI, Option.bind_some, qRetN, atI_0, atI_1, atI_2, mk_appT, mk_snocI, idl, rep_I, Option.map_none, eqv_idl, shaped_idl, Bool.and_self, Bool.true_and, Bool.and_true]))
local macro_rules | `(tactic| walk_at "F") => `(tactic| (try simp only [qAsg, qRet, qDrop, qIfS, qTest, qAndT, qOrT, qNotT, qAndV, qOrV, qNotV, qIf, qOp, qUn, qChain, onB, qv, qc, qgN, qgT, qgCons, qgNil, qCons, qNil, qTup, qLst, qPar, qPar3, qAug, qCB, qCall, qLen, qTupleC, qListC, qMax2, qMin2, qIntC, qSum, qAny, qAll, qIsi, tyName, qAdd, qSub, qMul, qFdiv, qMod, qPow, qI2, qCmpI, qEq, qNe, qLt, qLe, qGt, qGe, qNeg, qIx, qDGet, qDIn, qDPut, qSl, qPart, qNoPart, qNext, qFor, qiRng1, qiRng2, qiZip, qiEnum, qLc, fz, newL, List.getElem?_cons_zero, List.getElem?_cons_succ, List.set_cons_zero, List.set_cons_succ, if_true, if_false, Bool.false_eq_true, ite_true, ite_false, up_same, reduceIte, decide_true, decide_false, true_and, and_true, eqv_int, eqv_bool, eqv_TI, eqv_LI, eqv_TT, eqv_LT, eqv_nilL, eqv_nilT, shaped_TI, shaped_LI, shaped_TT, shaped_LT, shaped_int, shaped_bool, shaped_nilL, shaped_nilT, dints_map2, dbools_map2, datas_map, mkT_map, mkT_0, mkT_1, mkT_2, mkT_3, List.length_map, List.length_cons, List.length_nil, List.length_append, List.map_cons, List.map_nil, wipeD, Bool.not_true, Bool.not_false, eq_self, not_true_eq_false, not_false_eq_true, kitB_tt, kitB_ll, kitB_dd, kitB_bb, kitB_ib, kitB_ii, kitB_ss, kitB_tl, kitB_lt, Function.comp, datas, Option.map_some, List.cons_append, List.nil_append, CPow, le_size4, Int.toNat_natCast, rngD0, I_eq, Bo_eq, BS.qSortB, in_IT, in_IL, in_TT, in_TL, qNotN, qIsN, qSortD, qListRg, qDispT, keyX_TI, qGet, qiItems, qLockE, qLockS, qPop, qMaxDf, qLc2, qMax1, qMin1, qAppend, qExtend, tints_TI, dv_TI, Option.bind_some, qRetN, atI_0, atI_1, atI_2, mk_appT, mk_snocI, idl, rep_I, Option.map_none, eqv_idl, shaped_idl, Bool.and_self, Bool.true_and, Bool.and_true]))
namespace UC
open PySem L2 DL RD
def sp_law_subsets : SpD := fun xs st Q => ∃ (x : DV) (vs : List Int), xs = [x] ∧ sitems st x = some ((vs.map .int).map .d) ∧ vs.length ≤ 14 ∧
  ∀ (y : DV) st', Le st st' → (∀ a, y = .r a → st a = none) → sitems st' y = some (((subsL vs).map TI).map .d) → litems st' y = some (((subsL vs).map TI).map .d) → Q y st'
theorem len_law_subsets : ∀ xs st Q, sp_law_subsets xs st Q → xs.length = 1 := by rintro xs st Q ⟨x, a, rfl, _⟩; rfl
theorem sem_law_subsets : ∀ xs st Q, sp_law_subsets xs st Q → rd_law_subsets { nx := fun _ st' => Fg Q (.d .none) st', rt := Fg Q } (startD 4 xs) st := by
  rintro xs st Q ⟨x, vs, rfl, hx, hl, K⟩
  have e0 : startD 4 [x] = [some x, none, none, none] := rfl
  rw [e0]
  unfold rd_law_subsets
  refine seq fun N hN => ?_
  walk_at "D"
  refine ⟨by decide, by decide, fun p hp => hN _ _ ?_⟩; clear hN N
  refine seq fun N hN => ?_
  have hx1 := sitems_le hx (le_up1 (m := .lst [.d (.tuple [])]) hp)
  obtain ⟨inv0, hsrc0, hinv0⟩ := src_of2 hx1
  walk_at "F"
  simp only [qiSeq, qv, List.getElem?_cons_zero, List.getElem?_cons_succ, hsrc0]
  rw [List.map_map]
  refine for_byT _ (fun i ε s => Le st s ∧ (∃ y2, ε = [some x, some (.r p), y2, none]) ∧ s p = some (.lst (((subsL (vs.take i)).map TI).map .d))) ⟨le_up1 hp, ⟨_, rfl⟩, up_same⟩ (fun _ _ s h => hinv0 s (sitems_le hx h.1)) ?_ ?_
  · rintro i v ε s hi ⟨le, ⟨y2, rfl⟩, hs⟩ L hL
    have hiv : i < vs.length := (List.getElem?_eq_some_iff.mp hi).1
    have hnx : subsL (vs.take (i + 1)) = subsL (vs.take i) ++ (subsL (vs.take i)).map fun a => a ++ [v] := by
      rw [List.take_succ, hi]
      exact subs_snoc _ _
    have hlen : (subsL (vs.take i)).length ≤ 16384 := by
      rw [len_subs, List.length_take]
      exact Nat.le_trans (Nat.pow_le_pow_right (by decide) (show min i vs.length ≤ 14 by omega)) (by decide)
    have hall : ∀ a ∈ subsL (vs.take i), a.length ≤ 14 := fun a ha => by
      have := (mem_subs.mp ha).length_le
      rw [List.length_take] at this
      omega
    generalize subsL (vs.take i) = F at hs hnx hlen hall
    walk_at "D"
    refine ⟨⟨_, hs⟩, ?_⟩
    simp only [hs]
    refine ⟨by simp only [List.length_map, sizeL]; omega, ?_⟩
    rw [List.map_map]
    refine comp_mapT _ (fun a => .d (TI (a ++ [v]))) (by rw [← List.map_map]; exact hs) _ _ ?_ ?_
    · intro a ha Q1 h
      have := hall a ha
      walk_at "D"
      exact ⟨by decide, by rw [sizeL]; omega, h⟩
    · have e2 : [] ++ F.map (fun a => DV.d (TI (a ++ [v]))) = ((F.map fun a => a ++ [v]).map TI).map .d := by
        rw [List.nil_append, List.map_map, List.map_map]
        rfl
      rw [e2]
      walk_at "D"
      refine ⟨_, _, hs, rfl, by simp only [List.length_map, sizeL]; omega, hL _ _ ⟨le.up hp, ⟨_, rfl⟩, ?_⟩⟩
      rw [up_same, hnx, List.map_append, List.map_append]
  · rintro ε s ⟨le, ⟨y2, rfl⟩, hs⟩
    refine hN _ _ ?_
    rw [List.take_length] at hs
    walk_at "D"
    exact fg_ret (K _ s le (fun a e => by cases e; exact hp) (by simp only [sitems, titems, litems, hs]) (by simp only [litems, hs]))
end UC
end
section
set_option Elab.async false
set_option linter.all false
set_option maxRecDepth 100000
set_option maxHeartbeats 4000000
namespace CpComb
open PySem PySem.Spec
open Sem (wp)
theorem mro_cmb : mroOf (.type "itertools.combinations") = pure [.type "itertools.combinations", .type "object"] := by rw [mroOf_type]; kernel_rfl
theorem lookup_cmb_new : typeLookup (.type "itertools.combinations") "__new__" = pure (some (.builtin "itertools.combinations.__new__")) := by rw [typeLookup_type, builtinLookup_eq_fast]; kernel_rfl
theorem slot_cmb_init : Slot "itertools.combinations" "__init__" "object.__init__" :=
  .of (owner := "object") (n := "__init__") (by rw [typeLookup_type, builtinLookup_eq_fast]; kernel_rfl) (by decide +kernel) (by decide +kernel) (by decide +kernel)
    (by first | exact .inl (by decide +kernel) | exact .inr (by decide +kernel)) (by rw [isSubtype_type]; kernel_rfl)
theorem sub_cmb : isSubtype (.type "itertools.combinations") (.type "itertools.combinations") = pure true := by rw [isSubtype_type]; kernel_rfl
theorem called_cmb : TypeCalled "itertools.combinations" "itertools.combinations.__new__" "object.__init__" :=
  ⟨by decide +kernel, by decide +kernel, ⟨_, _, mro_cmb⟩, madeBy_type mro_cmb lookup_cmb_new (by decide +kernel), by decide +kernel, sub_cmb, slot_cmb_init⟩
theorem typeCall_cmb_2 (a b : Value) : checkTypeCall "itertools.combinations" ⟨[a, b], []⟩ = pure () := by kernel_rfl
theorem newCall_cmb_2 (a b : Value) : checkBuiltinCall "itertools.combinations.__new__" ⟨[.type "itertools.combinations", a, b], []⟩ = pure () := by kernel_rfl
theorem entry_cmb_new : entryFor table "itertools.combinations.__new__" = some Builtin.«itertools.combinations.__new__» := entryFor_of_tree (by kernel_rfl)
theorem slot_cmb_iter : Slot "itertools.combinations" "__iter__" "itertools.combinations.__iter__" :=
  .of (owner := "itertools.combinations") (n := "__iter__") (by rw [typeLookup_type, builtinLookup_eq_fast]; kernel_rfl) (by decide +kernel) (by decide +kernel) (by decide +kernel)
    (by first | exact .inl (by decide +kernel) | exact .inr (by decide +kernel)) sub_cmb
theorem slot_cmb_next : Slot "itertools.combinations" "__next__" "itertools.combinations.__next__" :=
  .of (owner := "itertools.combinations") (n := "__next__") (by rw [typeLookup_type, builtinLookup_eq_fast]; kernel_rfl) (by decide +kernel) (by decide +kernel) (by decide +kernel)
    (by first | exact .inl (by decide +kernel) | exact .inr (by decide +kernel)) sub_cmb
theorem entry_cmb_iter : entryFor table "itertools.combinations.__iter__" = some Builtin.«dict_keyiterator.__iter__» :=
  entryFor_alias (id' := "dict_keyiterator.__iter__") (by kernel_rfl) (by first | rfl | decide +kernel | (unfold String.splitOn; simp +decide [String.splitOnAux])) (by decide +kernel) (by kernel_rfl)
theorem entry_cmb_next : entryFor table "itertools.combinations.__next__" = some Builtin.«itertools.combinations.__next__» := entryFor_of_tree (by kernel_rfl)
theorem owner_cmb : Manifest.owners.lookup (String.ofList ['s', 'n', 'o', 'i', 't', 'a', 'n', 'i', 'b', 'm', 'o', 'c', '.', 's', 'l', 'o', 'o', 't', 'r', 'e', 't', 'i'].reverse) = some Manifest.sig_itertools_combinations := by kernel_rfl
theorem args_cmb_iter (a : Value) : argsOk "itertools.combinations.__iter__" ⟨[a], []⟩ := by
  unfold argsOk; rw [signature?_of (id := "itertools.combinations.__iter__") (n := ['_', '_', 'r', 'e', 't', 'i', '_', '_']) (o := ['s', 'n', 'o', 'i', 't', 'a', 'n', 'i', 'b', 'm', 'o', 'c', '.', 's', 'l', 'o', 'o', 't', 'r', 'e', 't', 'i']) (by kernel_rfl) owner_cmb]; kernel_rfl
theorem args_cmb_next (a : Value) : argsOk "itertools.combinations.__next__" ⟨[a], []⟩ := by
  unfold argsOk; rw [signature?_of (id := "itertools.combinations.__next__") (n := ['_', '_', 't', 'x', 'e', 'n', '_', '_']) (o := ['s', 'n', 'o', 'i', 't', 'a', 'n', 'i', 'b', 'm', 'o', 'c', '.', 's', 'l', 'o', 'o', 't', 'r', 'e', 't', 'i']) (by kernel_rfl) owner_cmb]; kernel_rfl
theorem noDict_cmb : typeHasDict (.type "itertools.combinations") = false := by decide +kernel
/-- a combinations object: its pool, how far it is, what it gave last, its places -/
abbrev cmbObj (P : Value) (st : Int) (last : Value) (idx : List Nat) : Obj := { cls := .type "itertools.combinations", dict := none, data := .fields ([P, .int st 0, last] ++ idx.map fun (i : Nat) => Value.int (i : Int) 0).toArray, slots := #[] }
theorem meets_cmb_new (it : Value) (i : Int) (t : Tok) (h0 : 0 ≤ i) (hr : i ≤ 1000) :
    Meets (Builtin.«itertools.combinations.__new__» ⟨[.type "itertools.combinations", it, .int i t], []⟩)
      (fun A R s => ∀ (prog : Program) (w : World), wpAny (model prog w) A.in1 (collect it) (fun vs s1 => vs.length ≤ 1000 ∧ R (.ok (.ret (.ref (s1.heap.objs.size + 1)))) { s1 with heap := (s1.heap.push { cls := .type "tuple", data := .seq vs.toArray }).push (cmbObj (.ref s1.heap.objs.size) (if i.toNat > vs.length then 2 else 0) .none (List.range i.toNat)) })
        (fun e s' => R (.error e) s') s) :=
  fun prog w A R s h => by
    have hw := h prog w
    obtain ⟨hp, g, dd, tk, os⟩ := s
    have hsub := sub_cmb
    have hd := noDict_cmb
    have es : ("itertools." ++ "combinations" : String) = "itertools.combinations" := by decide +kernel
    have hn : ¬ ((!(decide (-(2 ^ 63 : Int) ≤ i) && decide (i < (2 ^ 63 : Int)))) = true) := by
      have a : decide (-(2 ^ 63 : Int) ≤ i) = true := decide_eq_true (by omega)
      have b : decide (i < (2 ^ 63 : Int)) = true := decide_eq_true (by omega)
      rw [a, b]
      decide
    iterate 84 (first
      | (fail_if_success (with_reducible refine wpAny_mono hw (fun _ _ _ => ?_) (fun _ _ he => he))
         first
         | simp only [es]
         | wp_step
         | simp only [List.head?_cons, Option.some_or, List.getElem?_cons_succ, List.getElem?_cons_zero, List.length_cons, List.length_nil, List.forIn_nil]
         | (refine wpAny_ite_false (decide_eq_false hn) ?_))
      | skip)
    have hn2 : ¬ ((decide (i < -2 ^ 63) || decide (i ≥ 2 ^ 63)) = true) := by
      have a : decide (i < -2 ^ 63) = false := decide_eq_false (by omega)
      have b : decide (i ≥ 2 ^ 63) = false := decide_eq_false (by omega)
      rw [a, b]
      decide
    rw [if_neg hn2]
    refine wpAny_pure ?_
    refine wpAny_bind (wpAny_mono hw (fun vs s1 hv => ?_) fun e s' he => he)
    obtain ⟨hl, hv⟩ := hv
    rw [if_neg (show ¬ i < 0 by omega), if_neg (by unfold Builtin.Itertools.itTooMany; simp; omega)]
    refine wpAny_bind ?_
    simp only [newTuple]
    refine wpAny_newObj_type ?_ (by show vs.toArray.size ≤ sizeLine; rw [List.size_toArray, sizeLine_eq]; omega)
    refine wpAny_pure ?_
    show wpAny _ _ (Builtin.Itertools.itNewRecord (.type "itertools.combinations") _ >>= _) _ _ _
    refine wpAny_bind ?_
    unfold Builtin.Itertools.itNewRecord
    rw [hd, if_pos (by rfl)]
    have hf : (([Value.ref s1.heap.objs.size, rawInt (if i.toNat > vs.length then 2 else 0), Value.none] ++ (List.range i.toNat).map fun (i : Nat) => rawInt (i : Int))).length ≤ 1003 := by
      simp only [List.length_append, List.length_map, List.length_range, List.length_cons, List.length_nil]
      omega
    refine wpAny_newObj_type ?_ (by show (List.toArray _).size ≤ sizeLine + 2; rw [List.size_toArray, sizeLine_eq]; exact Nat.le_trans hf (by decide))
    refine wpAny_pure ?_
    have e1 : (s1.heap.push { cls := .type "tuple", data := .seq vs.toArray }).objs.size = s1.heap.objs.size + 1 := by first | exact PyProof.Rows.size_push' .. | simp [Heap.push]

    show R (.ok (.ret (.ref (s1.heap.push { cls := .type "tuple", data := .seq vs.toArray }).objs.size))) _
    rw [e1]
    exact hv
end CpComb
end
section
set_option Elab.async false
set_option linter.all false
set_option maxRecDepth 100000
set_option maxHeartbeats 4000000
namespace CpComb
open PySem PySem.Spec CpRep
open Sem (wp)
/-- the next places -/
def nextC (n : Nat) (idx : List Nat) : Option (List Nat) :=
  match (List.range idx.length).reverse.find? fun i => idx.getD i 0 != i + n - idx.length with
  | none => none
  | some i => some (idx.take i ++ (List.range (idx.length - i)).map (idx.getD i 0 + 1 + ·))
abbrev IsCmb (h : Heap) (it : Addr) (P : Addr) (st : Int) (last : Value) (idx : List Nat) : Prop := h.get? it = some (cmbObj (.ref P) st last idx)
section
variable {prog : Program} {w : World} {A : Around} {E : Value → Shared → Prop} {s : Shared}
theorem iter_cmb {it P : Addr} {st : Int} {last : Value} {idx : List Nat} {Q : Value → Shared → Prop} (hit : IsCmb s.heap it P st last idx) (h : Q (.ref it) s) : wpAny (model prog w) A (pyIter (.ref it)) Q E s := by
  have hT : s.TypeIs (.ref it) "itertools.combinations" := ⟨_, hit, rfl⟩
  refine wpAny_pyIter_slot hT slot_cmb_iter (wpAny_call_entry slot_cmb_iter hT entry_cmb_iter ?_ (args_cmb_iter _))
  show wpAny _ _ (ret (.ref it)) _ _ s
  exact wpAny_pure ⟨_, rfl, "itertools.combinations", _, hT, slot_cmb_next.lookup, h⟩
abbrev cmbF (P : Value) (st : Int) (last : Value) (idx : List Nat) : Array Value := ([P, .int st 0, last] ++ idx.map fun (i : Nat) => Value.int (i : Int) 0).toArray
theorem set1 (P : Value) (st st' : Int) (last : Value) (idx : List Nat) : (cmbF P st last idx).setIfInBounds 1 (rawInt st') = cmbF P st' last idx := by
  simp [cmbF, rawInt]
theorem set2 (P : Value) (st : Int) (last last' : Value) (idx : List Nat) : (cmbF P st last idx).setIfInBounds 2 last' = cmbF P st last' idx := by
  simp [cmbF]
theorem size_cmbF (P : Value) (st : Int) (last : Value) (idx : List Nat) : (cmbF P st last idx).size = idx.length + 3 := by
  simp [cmbF]
theorem numbers {it P : Addr} {st : Int} {last : Value} {idx : List Nat} {Q : List Nat → Shared → Prop} (hit : IsCmb s.heap it P st last idx) (h : Q idx s) : wpAny (model prog w) A (Builtin.Itertools.itNumbersFrom (.ref it) 3) Q E s := by
  unfold Builtin.Itertools.itNumbersFrom
  show wpAny _ _ (load it >>= _) _ _ _
  refine wpAny_bind (wpAny_load hit ?_)
  refine wpAny_pure ?_
  have e : ((cmbF (.ref P) st last idx).toList.drop 3).map (fun | .int n _ => n.toNat | _ => 0) = idx := by
    simp only [cmbF, List.drop_succ_cons, List.cons_append, List.nil_append, List.drop_zero, List.map_map]
    conv => rhs; rw [← List.map_id idx]
    exact List.map_congr_left fun x _ => by simp
  show Q (((cmbF (.ref P) st last idx).toList.drop 3).map (fun | .int n _ => n.toNat | _ => 0)) s
  rw [e]
  exact h
theorem stField {it P : Addr} {st : Int} {last : Value} {idx : List Nat} {Q : Int → Shared → Prop} (hit : IsCmb s.heap it P st last idx) (h : Q st s) : wpAny (model prog w) A (Builtin.Itertools.itIntField (.ref it) 1) Q E s := by
  unfold Builtin.Itertools.itIntField
  refine wpAny_bind (wpAny_field hit rfl (x := .int st 0) rfl ?_)
  exact wpAny_pure h
theorem poolItems {P : Addr} {oP : Obj} {items : Array Value} {n : Nat} {Q : Array Value → Shared → Prop} (hP : s.heap.get? P = some oP) (hd : oP.data = .seq items n) (h : Q items s) : wpAny (model prog w) A (Builtin.Itertools.itPoolItems (.ref P)) Q E s := by
  unfold Builtin.Itertools.itPoolItems
  refine wpAny_bind (wpAny_seqItems hP hd ?_)
  exact wpAny_pure h
/-- what is picked -/
def pickT (items : Array Value) (idx : List Nat) : List Value := idx.map fun i => items.getD i .none
/-- hand it out -/
theorem handOut {it P : Addr} {st : Int} {last : Value} {idx : List Nat} {ns : List Nat} {oP : Obj} {items : Array Value} {n : Nat} {Q : Fin → Shared → Prop} (hit : IsCmb s.heap it P st last ns) (hP : s.heap.get? P = some oP) (hd : oP.data = .seq items n) (hl : idx.length ≤ 1000)
    (hQ : ∀ h', IsCmb h' it P st (.ref s.heap.objs.size) ns → h'.get? s.heap.objs.size = some { cls := .type "tuple", data := .seq (pickT items idx).toArray } →
      (∀ b o, b ≠ it → s.heap.get? b = some o → h'.get? b = some o) → Q (.done (.ret (.ref s.heap.objs.size))) { s with heap := h' }) :
    wpAny (model prog w) A (do
      let result ← (do
        let items ← Builtin.Itertools.itPoolItems (.ref P)
        newTuple (idx.map fun i => items.getD i .none))
      let before ← field (.ref it) 2
      setField (.ref it) 2 result
      letGo [before] [result]
      ret result) Q E s := by
  have hlt : it < s.heap.objs.size := Heap.lt_size hit
  refine wpAny_bind (wpAny_bind (poolItems hP hd (wpAny_newTuple ?_ (by rw [List.length_map, sizeLine_eq]; omega))))
  have hit1 : IsCmb (s.heap.push { cls := .type "tuple", data := .seq (pickT items idx).toArray }) it P st last ns := Heap.get?_push_of_some _ hit
  refine wpAny_bind (wpAny_field hit1 rfl (x := last) rfl ?_)
  refine wpAny_bind (wpAny_setField_rec (vs := cmbF (.ref P) st last ns) hit1 (by rw [size_cmbF]; omega) fun h2 e2 sb => ?_)
  rw [set2] at e2
  refine wpAny_bind (wpAny_letGo (wpAny_pure ?_))
  refine hQ h2 e2 ?_ fun b o hb e => (sb.2 b hb).trans (Heap.get?_push_of_some _ e)
  exact (sb.2 _ (Nat.ne_of_gt hlt)).trans (Heap.get?_push_size _ rfl)
/-- out is handed the next one: a new tuple of these places -/
abbrev GaveC (it P : Addr) (items : Array Value) (idx : List Nat) (s : Shared) (h' : Heap) : Prop :=
  IsCmb h' it P 1 (.ref s.heap.objs.size) idx ∧ h'.get? s.heap.objs.size = some { cls := .type "tuple", data := .seq (pickT items idx).toArray } ∧ ∀ b o, b ≠ it → s.heap.get? b = some o → h'.get? b = some o
theorem next_first {it P : Addr} {last : Value} {idx : List Nat} {items : Array Value} {n : Nat} {oP : Obj} {Q : Option Value → Shared → Prop} (hit : IsCmb s.heap it P 0 last idx) (hP : s.heap.get? P = some oP) (hd : oP.data = .seq items n) (hne : P ≠ it) (hl : idx.length ≤ 1000)
    (hQ : ∀ h', GaveC it P items idx s h' → Q (some (.ref s.heap.objs.size)) { s with heap := h' }) :
    wpAny (model prog w) A (pyNext (.ref it)) Q E s := by
  have hT : s.TypeIs (.ref it) "itertools.combinations" := ⟨_, hit, rfl⟩
  unfold pyNext
  refine wpAny_bind (wpAny_attempt (wpAny_callSpecial?_slot (name := Str.ofString "__next__") hT slot_cmb_next (wpAny_call_entry slot_cmb_next hT entry_cmb_next ?_ (args_cmb_next _))))
  show wpAny _ _ (field (.ref it) 0 >>= _) _ _ s
  refine wpAny_bind (wpAny_field hit rfl (x := .ref P) rfl ?_)
  refine wpAny_bind (numbers hit ?_)
  refine wpAny_bind (stField hit ?_)
  refine wpAny_bind (wpAny_setField_rec (vs := cmbF (.ref P) 0 last idx) hit (by rw [size_cmbF]; omega) fun h1 e1 sb => ?_)
  rw [set1] at e1
  have hsz : h1.objs.size = s.heap.objs.size := sb.1
  refine handOut (s := { s with heap := h1 }) e1 ((sb.2 P hne).trans hP) hd hl fun h2 e2 t2 k2 => ⟨_, rfl, ?_⟩
  refine wpAny_pure ?_
  show Q (some (.ref h1.objs.size)) { s with heap := h2 }
  have e2 : IsCmb h2 it P 1 (.ref h1.objs.size) idx := e2
  have t2 : h2.get? h1.objs.size = some { cls := .type "tuple", data := .seq (pickT items idx).toArray } := t2
  rw [hsz] at e2 t2 ⊢
  exact hQ h2 ⟨e2, t2, fun b o hb e => k2 b o hb ((sb.2 b hb).trans e)⟩
theorem next_step {it P : Addr} {last : Value} {idx nx : List Nat} {items : Array Value} {n : Nat} {oP : Obj} {Q : Option Value → Shared → Prop} (hit : IsCmb s.heap it P 1 last idx) (hP : s.heap.get? P = some oP) (hd : oP.data = .seq items n) (hne : P ≠ it) (hnx : nextC items.size idx = some nx) (hl : nx.length ≤ 1000)
    (hQ : ∀ h', GaveC it P items nx s h' → Q (some (.ref s.heap.objs.size)) { s with heap := h' }) :
    wpAny (model prog w) A (pyNext (.ref it)) Q E s := by
  have hT : s.TypeIs (.ref it) "itertools.combinations" := ⟨_, hit, rfl⟩
  unfold pyNext
  refine wpAny_bind (wpAny_attempt (wpAny_callSpecial?_slot (name := Str.ofString "__next__") hT slot_cmb_next (wpAny_call_entry slot_cmb_next hT entry_cmb_next ?_ (args_cmb_next _))))
  show wpAny _ _ (field (.ref it) 0 >>= _) _ _ s
  refine wpAny_bind (wpAny_field hit rfl (x := .ref P) rfl ?_)
  refine wpAny_bind (numbers hit ?_)
  refine wpAny_bind (stField hit ?_)
  refine wpAny_bind (poolItems hP hd ?_)
  split
  rotate_left
  · rename_i hx
    have : nextC items.size idx = none := hx
    rw [hnx] at this
    cases this
  rename_i nx' hx
  have hx : nextC items.size idx = some nx' := hx
  rw [hnx] at hx
  cases hx
  refine wpAny_bind ?_
  unfold Builtin.Itertools.itSetNumbersFrom
  refine wpAny_updateFields hit rfl ?_ (by rw [Array.size_append, Array.size_extract]; simp only [List.size_toArray]; rw [List.length_map (as := nx), sizeLine_eq]; omega)
  have e1 : IsCmb (s.heap.update it (Obj.mapFields fun fs => fs.extract 0 3 ++ (nx.map fun (n : Nat) => rawInt n).toArray)) it P 1 last nx := by
    have q := Heap.get?_update_self (Obj.mapFields fun fs => fs.extract 0 3 ++ (nx.map fun (n : Nat) => rawInt (n : Int)).toArray) hit rfl
    refine q.trans ?_
    simp [Obj.mapFields, cmbObj, rawInt]
  have sb : Heap.SameBut it s.heap (s.heap.update it (Obj.mapFields fun fs => fs.extract 0 3 ++ (nx.map fun (n : Nat) => rawInt (n : Int)).toArray)) := Heap.SameBut.update ..
  generalize s.heap.update it (Obj.mapFields fun fs => fs.extract 0 3 ++ (nx.map fun (n : Nat) => rawInt (n : Int)).toArray) = h1 at e1 sb
  have hsz : h1.objs.size = s.heap.objs.size := sb.1
  refine handOut (s := { s with heap := h1 }) e1 ((sb.2 P hne).trans hP) hd hl fun h2 e2 t2 k2 => ⟨_, rfl, ?_⟩
  refine wpAny_pure ?_
  show Q (some (.ref h1.objs.size)) { s with heap := h2 }
  have e2 : IsCmb h2 it P 1 (.ref h1.objs.size) nx := e2
  have t2 : h2.get? h1.objs.size = some { cls := .type "tuple", data := .seq (pickT items nx).toArray } := t2
  rw [hsz] at e2 t2 ⊢
  exact hQ h2 ⟨e2, t2, fun b o hb e => k2 b o hb ((sb.2 b hb).trans e)⟩
theorem stopIt {α : Type} {Q : α → Shared → Prop} (hh : A.handled = none) (h : ∀ (a : Addr) (o : Obj) (h' : Heap), h'.get? a = some o → o.cls = .type "StopIteration" → (∀ b o, s.heap.get? b = some o → h'.get? b = some o) → E (.ref a) { s with heap := h' }) :
    wpAny (model prog w) A (Builtin.Itertools.itStop : Sem α) Q E s := by
  unfold Builtin.Itertools.itStop
  show wpAny _ _ (newExc (.type "StopIteration") [] >>= _) _ _ _
  refine wpAny_bind ?_
  simp only [newExc, newTuple]
  refine wpAny_bind (wpAny_newObj_type ?_ (by size_fits))
  refine wpAny_bind (m := firstArgMember _ _) (wpAny_of_eq (a := Value.none) (by first | rfl | (simp only [firstArgMember]; rfl)) ?_)
  refine wpAny_newObj_type ?_ (by size_fits)
  simp only [raiseNew]
  refine wpAny_bind (wpAny_handled ?_)
  rw [hh]
  refine wpAny_bind (wpAny_pure (wpAny_throw ?_))
  exact h _ _ _ (Heap.get?_push_size _ rfl) rfl fun b o e => Heap.get?_push_of_some _ (Heap.get?_push_of_some _ e)
theorem next_over {it P : Addr} {last : Value} {idx : List Nat} {Q : Option Value → Shared → Prop} (hh : A.handled = none) (hit : IsCmb s.heap it P 2 last idx)
    (hQ : ∀ h', Heap.ExtBut it s.heap h' → Q none { s with heap := h' }) : wpAny (model prog w) A (pyNext (.ref it)) Q E s := by
  have hT : s.TypeIs (.ref it) "itertools.combinations" := ⟨_, hit, rfl⟩
  unfold pyNext
  refine wpAny_bind (wpAny_attempt (wpAny_callSpecial?_slot (name := Str.ofString "__next__") hT slot_cmb_next (wpAny_call_entry slot_cmb_next hT entry_cmb_next ?_ (args_cmb_next _))))
  show wpAny _ _ (field (.ref it) 0 >>= _) _ _ s
  refine wpAny_bind (wpAny_field hit rfl (x := .ref P) rfl ?_)
  refine wpAny_bind (numbers hit ?_)
  refine wpAny_bind (stField hit ?_)
  refine wpAny_bind (wpAny_rule ?_)
  refine stopIt (A := A.in1) hh fun a o h' e1 e2 k => ?_
  refine wpAny_bind (wpAny_isInstance (T := "StopIteration") (b := true) ⟨_, e1, e2⟩ isSubtype_stop ?_)
  exact wpAny_pure (hQ _ fun b o _ e => k b o e)
theorem next_end {it P : Addr} {last : Value} {idx : List Nat} {items : Array Value} {n : Nat} {oP : Obj} {Q : Option Value → Shared → Prop} (hh : A.handled = none) (hit : IsCmb s.heap it P 1 last idx) (hP : s.heap.get? P = some oP) (hd : oP.data = .seq items n) (hnx : nextC items.size idx = none)
    (hQ : ∀ h', Heap.ExtBut it s.heap h' → Q none { s with heap := h' }) : wpAny (model prog w) A (pyNext (.ref it)) Q E s := by
  have hT : s.TypeIs (.ref it) "itertools.combinations" := ⟨_, hit, rfl⟩
  unfold pyNext
  refine wpAny_bind (wpAny_attempt (wpAny_callSpecial?_slot (name := Str.ofString "__next__") hT slot_cmb_next (wpAny_call_entry slot_cmb_next hT entry_cmb_next ?_ (args_cmb_next _))))
  show wpAny _ _ (field (.ref it) 0 >>= _) _ _ s
  refine wpAny_bind (wpAny_field hit rfl (x := .ref P) rfl ?_)
  refine wpAny_bind (numbers hit ?_)
  refine wpAny_bind (stField hit ?_)
  refine wpAny_bind (poolItems hP hd ?_)
  split
  · rename_i nx' hx
    have hx : nextC items.size idx = some nx' := hx
    rw [hnx] at hx
    cases hx
  refine wpAny_bind (wpAny_setField_rec (vs := cmbF (.ref P) 1 last idx) hit (by rw [size_cmbF]; omega) fun h1 e1 sb => ?_)
  refine stopIt (A := A.in1) hh fun a o h' e1 e2 k => ?_
  refine wpAny_bind (wpAny_isInstance (T := "StopIteration") (b := true) ⟨_, e1, e2⟩ isSubtype_stop ?_)
  exact wpAny_pure (hQ _ fun b o hb e => k b o ((sb.2 b hb).trans e))
/-- combinations(x, r): the object is new, its pool is new -/
theorem call_cmb {x : Value} {i : Int} {t : Tok} {Q : Value → Shared → Prop} (h0 : 0 ≤ i) (h1 : i ≤ 1000)
    (h : ∀ (prog' : Program) (w' : World), wpAny (model prog' w') A.in1.in1 (collect x) (fun vs s1 => vs.length ≤ 1000 ∧ ∀ h', IsCmb h' (s1.heap.objs.size + 1) s1.heap.objs.size (if i.toNat > vs.length then 2 else 0) .none (List.range i.toNat) →
      h'.get? s1.heap.objs.size = some { cls := .type "tuple", data := .seq vs.toArray } → (∀ b o, s1.heap.get? b = some o → h'.get? b = some o) → Q (.ref (s1.heap.objs.size + 1)) { s1 with heap := h' }) E s) :
    wpAny (model prog w) A (call (.type "itertools.combinations") [x, .int i t]) Q E s := by
  refine callType_new called_cmb (by decide +kernel) (typeCall_cmb_2 _ _) (newCall_cmb_2 _ _) (fun obj => F.args_object_init_3 obj _ _) entry_cmb_new (meets_cmb_new x i t h0 h1) fun prog' w' => ?_
  refine wpAny_mono (h prog' w') (fun vs s1 ⟨hl, q⟩ => ⟨hl, ?_⟩) fun e s' z => z
  have hs : (s1.heap.push { cls := .type "tuple", data := .seq vs.toArray }).objs.size = s1.heap.objs.size + 1 := PyProof.Rows.size_push' ..
  have e1 : ((s1.heap.push { cls := .type "tuple", data := .seq vs.toArray }).push (cmbObj (.ref s1.heap.objs.size) (if i.toNat > vs.length then 2 else 0) .none (List.range i.toNat))).get? (s1.heap.objs.size + 1) = some (cmbObj (.ref s1.heap.objs.size) (if i.toNat > vs.length then 2 else 0) .none (List.range i.toNat)) := by
    rw [← hs]
    exact Heap.get?_push_size _ rfl
  show _ ∧ _
  exact ⟨⟨_, e1, rfl⟩, q _ e1 (Heap.get?_push_of_some _ (Heap.get?_push_size _ rfl)) fun b o e => Heap.get?_push_of_some _ (Heap.get?_push_of_some _ e)⟩
end
end CpComb
end
section
set_option Elab.async false
set_option linter.all false
set_option maxRecDepth 100000
set_option maxHeartbeats 4000000
namespace CpComb
open PySem
/-- r of lo, .., lo + m - 1, in their order -/
def combR : Nat → Nat → Nat → List (List Nat)
  | _, _, 0 => [[]]
  | 0, _, _ + 1 => []
  | m + 1, lo, r + 1 => (combR m (lo + 1) r).map (lo :: ·) ++ combR m (lo + 1) (r + 1)
theorem combR_zero (m lo : Nat) : combR m lo 0 = [[]] := by cases m <;> rfl
theorem combR_none : ∀ (m lo r : Nat), m < r → combR m lo r = []
  | _, _, 0, h => absurd h (Nat.not_lt_zero _)
  | 0, _, _ + 1, _ => rfl
  | m + 1, lo, r + 1, h => by rw [combR, combR_none m (lo + 1) r (by omega), combR_none m (lo + 1) (r + 1) (by omega)]; rfl
theorem combR_len : ∀ (m lo r : Nat) (a : List Nat), a ∈ combR m lo r → a.length = r
  | m, lo, 0, a, h => by
    rw [combR_zero] at h
    rw [List.mem_singleton.mp h]
    rfl
  | 0, _, _ + 1, _, h => nomatch h
  | m + 1, lo, r + 1, a, h => by
    rw [combR] at h
    rcases List.mem_append.mp h with z | z
    · obtain ⟨b, hb, rfl⟩ := List.mem_map.mp z
      rw [List.length_cons, combR_len m (lo + 1) r b hb]
    · exact combR_len m (lo + 1) (r + 1) a z
theorem combR_head : ∀ (m lo r : Nat), r ≤ m → (combR m lo r)[0]? = some ((List.range r).map (lo + ·))
  | m, lo, 0, _ => by rw [combR_zero]; rfl
  | m + 1, lo, r + 1, h => by
    rw [combR, List.getElem?_append_left (by
      have := combR_head m (lo + 1) r (by omega)
      rw [List.length_map]
      exact (List.getElem?_eq_some_iff.mp this).1), List.getElem?_map, combR_head m (lo + 1) r (by omega)]
    show some (lo :: (List.range r).map (lo + 1 + ·)) = _
    congr 1
    rw [List.range_succ_eq_map, List.map_cons, List.map_map]
    congr 1
    exact List.map_congr_left fun x _ => by
      show lo + 1 + x = lo + (x + 1)
      omega
theorem next_cons (n x : Nat) (xs : List Nat) (h : xs.length + 1 ≤ n) : nextC n (x :: xs) = match nextC n xs with
    | some ys => some (x :: ys)
    | none => if x != n - (xs.length + 1) then some ((List.range (xs.length + 1)).map (x + 1 + ·)) else none := by
  unfold nextC
  rw [List.length_cons, List.range_succ_eq_map, List.reverse_cons, List.find?_append, ← List.map_reverse, List.find?_map]
  have e : ((fun i => (x :: xs).getD i 0 != i + n - (xs.length + 1)) ∘ Nat.succ) = fun i => xs.getD i 0 != i + n - xs.length := funext fun i => by
    show (xs.getD i 0 != i + 1 + n - (xs.length + 1)) = _
    rw [show i + 1 + n - (xs.length + 1) = i + n - xs.length by omega]
  rw [e]
  cases c : (List.range xs.length).reverse.find? fun i => xs.getD i 0 != i + n - xs.length with
  | some i =>
    show some ((x :: xs).take (i + 1) ++ (List.range (xs.length + 1 - (i + 1))).map ((x :: xs).getD (i + 1) 0 + 1 + ·)) = some (x :: (xs.take i ++ (List.range (xs.length - i)).map (xs.getD i 0 + 1 + ·)))
    rw [List.take_succ_cons, show xs.length + 1 - (i + 1) = xs.length - i by omega]
    rfl
  | none =>
    show (match (List.find? (fun i => (x :: xs).getD i 0 != i + n - (xs.length + 1)) [0]) with
      | none => none
      | some i => some ((x :: xs).take i ++ (List.range (xs.length + 1 - i)).map ((x :: xs).getD i 0 + 1 + ·))) = _
    rw [List.find?_cons, List.find?_nil]
    show (match (match x != 0 + n - (xs.length + 1) with | true => some 0 | false => none) with
      | none => none
      | some i => some ((x :: xs).take i ++ (List.range (xs.length + 1 - i)).map ((x :: xs).getD i 0 + 1 + ·))) = _
    rw [Nat.zero_add]
    cases (x != n - (xs.length + 1)) with
    | true =>
      rw [← List.range_succ_eq_map]
      rfl
    | false => rfl
theorem combR_next : ∀ (m lo r n : Nat), lo + m = n → ∀ (i : Nat) (a : List Nat), (combR m lo r)[i]? = some a → nextC n a = (combR m lo r)[i + 1]?
  | m, lo, 0, n, _, i, a, h => by
    rw [combR_zero] at h ⊢
    cases i with
    | zero => cases h; rfl
    | succ i => cases h
  | 0, _, _ + 1, _, _, _, _, h => nomatch h
  | m + 1, lo, r + 1, n, hn, i, a, h => by
    rw [combR] at h ⊢
    by_cases c : i < (combR m (lo + 1) r).length
    · rw [List.getElem?_append_left (by rw [List.length_map]; exact c), List.getElem?_map] at h
      obtain ⟨b, hb, rfl⟩ := Option.map_eq_some_iff.mp h
      have hlen := combR_len m (lo + 1) r b (List.mem_of_getElem? hb)
      have hrm : r ≤ m := Nat.le_of_not_lt fun z => by rw [combR_none m (lo + 1) r z] at c; exact Nat.not_lt_zero _ c
      rw [next_cons n lo b (by omega), combR_next m (lo + 1) r n (by omega) i b hb]
      by_cases c2 : i + 1 < (combR m (lo + 1) r).length
      · rw [List.getElem?_append_left (by rw [List.length_map]; exact c2), List.getElem?_map, List.getElem?_eq_getElem c2]
        rfl
      · rw [List.getElem?_eq_none (by omega), List.getElem?_append_right (by rw [List.length_map]; omega), List.length_map, show i + 1 - (combR m (lo + 1) r).length = 0 by omega]
        show (if (lo != n - (b.length + 1)) = true then _ else none) = _
        rw [hlen]
        by_cases c3 : r + 1 ≤ m
        · rw [if_pos (by rw [bne_iff_ne]; omega), combR_head m (lo + 1) (r + 1) c3]
        · rw [if_neg (by rw [bne_iff_ne]; omega), combR_none m (lo + 1) (r + 1) (by omega)]
          rfl
    · rw [List.getElem?_append_right (by rw [List.length_map]; omega), List.length_map] at h
      rw [combR_next m (lo + 1) (r + 1) n (by omega) _ a h, List.getElem?_append_right (by rw [List.length_map]; omega), List.length_map]
      congr 1
      omega
/-- the choices of r of these things, in their order -/
def combL {α : Type} : List α → Nat → List (List α)
  | _, 0 => [[]]
  | [], _ + 1 => []
  | x :: xs, r + 1 => (combL xs r).map (x :: ·) ++ combL xs (r + 1)
theorem combL_zero {α : Type} (xs : List α) : combL xs 0 = [[]] := by cases xs <;> rfl
theorem combR_pick {α : Type} (d : α) (full : List α) : ∀ (m lo r : Nat), lo + m = full.length → (combR m lo r).map (fun idx => idx.map fun i => full.getD i d) = combL (full.drop lo) r
  | m, lo, 0, _ => by rw [combR_zero, combL_zero]; rfl
  | 0, lo, r + 1, h => by
    rw [List.drop_of_length_le (by omega)]
    rfl
  | m + 1, lo, r + 1, h => by
    have hlo : lo < full.length := by omega
    rw [List.drop_eq_getElem_cons hlo, combR, combL, List.map_append, List.map_map, ← combR_pick d full m (lo + 1) r (by omega), ← combR_pick d full m (lo + 1) (r + 1) (by omega), List.map_map]
    congr 1
    refine List.map_congr_left fun idx _ => ?_
    show full.getD lo d :: _ = full[lo] :: _
    rw [List.getD_eq_getElem?_getD, List.getElem?_eq_getElem hlo]
    rfl
theorem combL_map {α β : Type} (f : α → β) : ∀ (xs : List α) (r : Nat), combL (xs.map f) r = (combL xs r).map (List.map f)
  | xs, 0 => by rw [combL_zero, combL_zero]; rfl
  | [], r + 1 => rfl
  | x :: xs, r + 1 => by
    rw [List.map_cons, combL, combL, combL_map f xs r, combL_map f xs (r + 1), List.map_append, List.map_map, List.map_map]
    rfl
theorem mem_combL {α : Type} : ∀ {xs : List α} {r : Nat} {a : List α}, a ∈ combL xs r ↔ a.Sublist xs ∧ a.length = r
  | xs, 0, a => by
    rw [combL_zero, List.mem_singleton]
    exact ⟨fun h => by rw [h]; exact ⟨List.nil_sublist _, rfl⟩, fun h => List.eq_nil_of_length_eq_zero h.2⟩
  | [], r + 1, a => by
    constructor
    · exact fun h => nomatch h
    · rintro ⟨h1, h2⟩
      rw [List.sublist_nil.mp h1] at h2
      cases h2
  | x :: xs, r + 1, a => by
    rw [combL, List.mem_append, List.mem_map]
    constructor
    · rintro (⟨b, hb, rfl⟩ | h)
      · obtain ⟨h1, h2⟩ := mem_combL.mp hb
        exact ⟨h1.cons₂ x, by rw [List.length_cons, h2]⟩
      · obtain ⟨h1, h2⟩ := mem_combL.mp h
        exact ⟨h1.cons x, h2⟩
    · rintro ⟨h1, h2⟩
      cases h1 with
      | cons _ h => exact .inr (mem_combL.mpr ⟨h, h2⟩)
      | cons_cons _ h => exact .inl ⟨_, mem_combL.mpr ⟨h, by simpa using h2⟩, rfl⟩
end CpComb
end
section
set_option Elab.async false
set_option linter.all false
set_option maxRecDepth 100000
set_option maxHeartbeats 4000000
namespace L2
open PySem PySem.Spec PyProof.Rows CpComb
/-- the choices of r of xs, each in a new tuple -/
def Itm (xs : List V) (r : Nat) : It :=
  ⟨fun i _ => i < (combL xs r).length, fun i H v H' => ∃ T c, v = .ref T ∧ H T = none ∧ (combL xs r)[i]? = some c ∧ H' = upd H T (.tup c), fun i _ => (combL xs r).length ≤ i⟩
def TnC (it P : Addr) (us : List Value) (r : Nat) (i : Nat) (h : Heap) : Prop :=
  (∃ oP n, h.get? P = some oP ∧ oP.data = .seq us.toArray n) ∧ P ≠ it ∧ ∃ st last idx, IsCmb h it P st last idx ∧
    ((i = 0 ∧ r ≤ us.length ∧ st = 0 ∧ idx = List.range r) ∨ (us.length < r ∧ st = 2) ∨ (1 ≤ i ∧ r ≤ us.length ∧ st = 1 ∧ (combR us.length 0 r)[i - 1]? = some idx))
theorem pick_comb (us : List Value) (r : Nat) : (combR us.length 0 r).map (pickT us.toArray) = combL us r := by
  have := combR_pick Value.none us us.length 0 r (by omega)
  rw [List.drop_zero] at this
  rw [← this]
  refine List.map_congr_left fun idx _ => ?_
  unfold pickT
  refine List.map_congr_left fun i _ => ?_
  simp [Array.getD, List.getD_eq_getElem?_getD]
  split
  · rename_i h
    rw [List.getElem?_eq_getElem h]
    rfl
  · rename_i h
    rw [List.getElem?_eq_none (by omega)]
    rfl
theorem len_comb {α β : Type} : ∀ {xs : List α} {ys : List β} (r : Nat), xs.length = ys.length → (combL xs r).length = (combL ys r).length
  | xs, ys, 0, _ => by rw [combL_zero, combL_zero]; rfl
  | [], [], r + 1, _ => rfl
  | x :: xs, y :: ys, r + 1, h => by
    have h' : xs.length = ys.length := by simpa using h
    rw [combL, combL, List.length_append, List.length_append, List.length_map, List.length_map, len_comb r h', len_comb (r + 1) h']
theorem vals_comb : ∀ {xs : List V} {us : List Value} (_ : Vals xs us) (r i : Nat) {c : List V} (_ : (combL xs r)[i]? = some c), ∃ ws, (combL us r)[i]? = some ws ∧ Vals c ws
  | xs, us, rv, 0, i, c, h => by
    rw [combL_zero] at h ⊢
    cases i with
    | zero => cases h; exact ⟨[], rfl, .nil⟩
    | succ i => cases h
  | _, _, .nil, r + 1, i, c, h => nomatch h
  | x :: xs, u :: us, .cons r1 rv, r + 1, i, c, h => by
    have hl := len_comb r rv.length
    rw [combL] at h ⊢
    by_cases z : i < (combL xs r).length
    · rw [List.getElem?_append_left (by rw [List.length_map]; exact z), List.getElem?_map] at h
      obtain ⟨b, hb, rfl⟩ := Option.map_eq_some_iff.mp h
      obtain ⟨ws, h1, h2⟩ := vals_comb rv r i hb
      exact ⟨u :: ws, by rw [List.getElem?_append_left (by rw [List.length_map, ← hl]; exact z), List.getElem?_map, h1]; rfl, .cons r1 h2⟩
    · rw [List.getElem?_append_right (by rw [List.length_map]; omega), List.length_map] at h
      obtain ⟨ws, h1, h2⟩ := vals_comb rv (r + 1) _ h
      exact ⟨ws, by rw [List.getElem?_append_right (by rw [List.length_map, ← hl]; omega), List.length_map, ← hl]; exact h1, h2⟩
theorem len_combR (us : List Value) (r : Nat) : (combR us.length 0 r).length = (combL us r).length := by rw [← pick_comb, List.length_map]
theorem turn_comb {P' : Program} {w : World} {K : PySem.W.Frag} {tg : Expr} {xs : List V} {us : List Value} (rv : Vals xs us) (hz : us.length ≤ 1000) (it P : Addr) (r : Nat) (hr : r ≤ 1000) : Turn P' w K tg (Itm xs r) [it, P] it (TnC it P us r) where
  mem := by simp
  obj := fun i h st b hb => by
    obtain ⟨⟨oP, n, hP, hd⟩, _, s1, last, idx, hc, _⟩ := st
    have e' : b = it ∨ b = P := by simpa using hb
    rcases e' with z | z
    · rw [z]; exact ⟨_, hc, fun v q => nomatch q⟩
    · rw [z]; exact ⟨_, hP, fun v q => by rw [hd] at q; cases q⟩
  keep := fun i h h' st k => by
    obtain ⟨⟨oP, n, hP, hd⟩, hne, s1, last, idx, hc, q⟩ := st
    exact ⟨⟨oP, n, k P (by simp) _ hP, hd⟩, hne, s1, last, idx, k it (by simp) _ hc, q⟩
  item := by
    intro X hP' hw hK hcalm i pins s σ H E I hf st hg
    subst hP' hw hK
    obtain ⟨⟨oP, n, hP, hd⟩, hne, s1, last, idx, hc, q⟩ := st
    have hl : us.length = xs.length := rv.length.symm
    have hg : i < (combL xs r).length := hg
    have hgu : i < (combL us r).length := by rw [len_comb r hl]; exact hg
    have hrl : r ≤ us.length := Nat.le_of_not_lt fun z => by
      rw [← len_combR, combR_none us.length 0 r z] at hgu
      exact Nat.not_lt_zero _ hgu
    obtain ⟨ws, hws, rw'⟩ := vals_comb rv r i (List.getElem?_eq_getElem hg)
    have hgR : i < (combR us.length 0 r).length := by rw [len_combR]; exact hgu
    obtain ⟨nx, hnx⟩ : ∃ nx, (combR us.length 0 r)[i]? = some nx := ⟨_, List.getElem?_eq_getElem hgR⟩
    have hpick : pickT us.toArray nx = ws := by
      have := hws
      rw [← pick_comb, List.getElem?_map, hnx] at this
      exact Option.some.inj this
    have hnl : nx.length = r := combR_len _ _ _ nx (List.mem_of_getElem? hnx)
    have fin : ∀ h', GaveC it P us.toArray nx s h' → ∃ u, some (Value.ref s.heap.objs.size) = some u ∧
        wpAny (model X.prog X.w) X.A (letOwnedTupleGo tg (.ref it) u) (fun _ s2 => ∃ x H', Inv X pins σ H' s2 ∧ RelV x u ∧ (Itm xs r).yld i H x H' ∧ TnC it P us r (i + 1) s2.heap ∧ ∀ b ∈ [it, P], H' b = none) E { s with heap := h' } := by
      rintro h' ⟨g1, g2, g3⟩
      rw [hpick] at g2
      refine ⟨_, rfl, go_of (s := { s with heap := h' }) (n := "itertools.combinations") g1 rfl rfl (by decide) ?_⟩
      have hil : it < s.heap.objs.size := Heap.lt_size hc
      have hPl : P < s.heap.objs.size := Heap.lt_size hP
      have hcl : (combL xs r)[i].length ≤ sizeLine := by
        rw [rw'.length, ← hpick]
        unfold pickT
        rw [List.length_map, hnl, sizeLine_eq]
        omega
      have new : ObjOk X.prog X.w (upd H s.heap.objs.size (.tup (combL xs r)[i])) h' s.heap.objs.size (.tup (combL xs r)[i]) := ⟨hcl, ws, rw', ⟨_, g2, rfl, _, rfl⟩⟩
      have I1 : Inv X pins σ (upd H s.heap.objs.size (.tup (combL xs r)[i])) { s with heap := h' } :=
        I.turnedNew (t' := s.toks) (ch := [it, P]) (fun b ob hb q => g3 b ob (fun z => hb (by simp [z])) q) hf (Nat.le_refl _) new
      refine ⟨.ref s.heap.objs.size, _, I1, rfl, ⟨_, _, rfl, I.hok.fresh (Nat.le_refl _), List.getElem?_eq_getElem hg, rfl⟩, ⟨⟨oP, n, g3 P oP hne hP, hd⟩, hne, 1, _, nx, g1, .inr (.inr ⟨Nat.succ_pos _, hrl, rfl, hnx⟩)⟩, fun b hb => ?_⟩
      have hb' : b < s.heap.objs.size := by
        have e' : b = it ∨ b = P := by simpa using hb
        rcases e' with z | z
        · rw [z]; exact hil
        · rw [z]; exact hPl
      rw [upd_ne (Nat.ne_of_lt hb')]
      exact (hf b hb).1
    rcases q with ⟨rfl, _, rfl, rfl⟩ | ⟨z, _⟩ | ⟨i1, _, rfl, hi⟩
    · have e0 := combR_head us.length 0 r hrl
      rw [hnx] at e0
      have e1 : nx = List.range r := by
        rw [Option.some.inj e0]
        simp
      refine CpComb.next_first hc hP hd hne (by rw [List.length_range]; exact hr) fun h' g => fin h' (by rw [e1]; exact g)
    · omega
    · have hx := combR_next us.length 0 r us.length (by omega) (i - 1) idx hi
      rw [show i - 1 + 1 = i by omega, hnx] at hx
      refine CpComb.next_step hc hP hd hne (nx := nx) (by rw [List.size_toArray]; exact hx) (by omega) fin
  done := by
    intro X hP' hw hK hcalm i pins s σ H E I hf st hg
    subst hP' hw hK
    obtain ⟨⟨oP, n, hP, hd⟩, hne, s1, last, idx, hc, q⟩ := st
    have hl : us.length = xs.length := rv.length.symm
    have hg : (combL xs r).length ≤ i := hg
    have hgR : (combR us.length 0 r).length ≤ i := by rw [len_combR, len_comb r hl]; exact hg
    obtain ⟨f0, f1, f2, f3, f4, f5⟩ := hf it (by simp)
    have fin : ∀ h', Heap.ExtBut it s.heap h' → none = (none : Option Value) ∧ Inv X pins σ H { s with heap := h' } := fun h' eb => ⟨rfl, I.turned (t' := s.toks) (fun b o hb e => eb b o hb e) f0 f1 f3 f4 f5⟩
    rcases q with ⟨rfl, hrl, rfl, rfl⟩ | ⟨_, rfl⟩ | ⟨i1, _, rfl, hi⟩
    · have := (List.getElem?_eq_some_iff.mp (combR_head us.length 0 r hrl)).1
      omega
    · exact CpComb.next_over (I.ok.hd hcalm) hc fin
    · have hx := combR_next us.length 0 r us.length (by omega) (i - 1) idx hi
      rw [show i - 1 + 1 = i by omega, List.getElem?_eq_none hgR] at hx
      exact CpComb.next_end (I.ok.hd hcalm) hc hP hd (by rw [List.size_toArray]; exact hx) fin
  self := fun A i s Q E st h => by
    obtain ⟨_, _, s1, last, idx, hc, _⟩ := st
    exact iter_cmb hc h
end L2
end
section
set_option Elab.async false
set_option linter.all false
set_option maxRecDepth 100000
set_option maxHeartbeats 4000000
namespace L2
open PySem PySem.Spec PyProof.Rows CpComb
def iComb (K : PySem.W.Frag) (ta : TA) : TI := fun σ H R => ta σ H fun vs H1 => ∃ (l : Addr) (xs : List V) (r : Nat), vs = [.ref l, .int (r : Int)] ∧ (SqL K H1 l xs ∨ SqT K H1 l xs) ∧ xs.length ≤ 1000 ∧ r ≤ 1000 ∧ R (Itm xs r) H1
section
variable {X : Cx} {tg : Expr}
/-- a combinations object just made, walked -/
theorem cmb_it {pins : List (Addr × Obj)} {σ : St} {H : Hp} {s : Shared} {R : It → Hp → Prop} {E : Value → Shared → Prop} {xs : List V} {us : List Value} {r : Nat} {h1 h' : Heap} (I : Inv X pins σ H s) (rv : Vals xs us) (hl : us.length ≤ 1000) (hr : r ≤ 1000)
    (k1 : ∀ b o, s.heap.get? b = some o → h1.get? b = some o)
    (hit : IsCmb h' (h1.objs.size + 1) h1.objs.size (if (r : Int).toNat > us.length then 2 else 0) .none (List.range (r : Int).toNat)) (hP : h'.get? h1.objs.size = some { cls := .type "tuple", data := .seq us.toArray }) (k2 : ∀ b o, h1.get? b = some o → h'.get? b = some o)
    (q : R (Itm xs r) H) : wpAny (model X.prog X.w) X.A (pyIter (.ref (h1.objs.size + 1))) (PIE X pins σ tg R) E { s with heap := h' } := by
  rw [Int.toNat_natCast] at hit
  have I1 : Inv X pins σ H { s with heap := h1 } := I.kept (t' := s.toks) k1
  refine iter_cmb hit ?_
  refine ⟨h1.objs.size + 1, [h1.objs.size + 1, h1.objs.size], _, Itm xs r, H, rfl, I.kept (t' := s.toks) fun b o e => k2 b o (k1 b o e), turn_comb rv hl (h1.objs.size + 1) h1.objs.size r hr, ⟨⟨_, _, hP, rfl⟩, Nat.ne_of_lt (Nat.lt_succ_self _), _, _, _, hit, ?_⟩, fun b hb => ?_, q⟩
  · by_cases c : r > us.length
    · rw [if_pos c]
      exact .inr (.inl ⟨c, rfl⟩)
    · rw [if_neg c]
      exact .inl ⟨rfl, Nat.le_of_not_lt c, rfl, rfl⟩
  · have hb' : h1.objs.size ≤ b := by
      have e' : b = h1.objs.size + 1 ∨ b = h1.objs.size := by simpa using hb
      rcases e' with z | z
      · rw [z]; exact Nat.le_succ _
      · rw [z]; exact Nat.le_refl _
    exact I1.fpOk hb' (I1.hok.fresh hb')
theorem pi_comb {a b : Expr} {ta : TA} {x : Str} {p pos : Pos} (hg : Gl X x) (hm : X.mg x = some (.type "itertools.combinations")) (ha : PA X [a, b] ta)
    (hs : starEach [a, b] X.env = (false, eval a X.env) :: starEach [b] X.env := by rfl) (hpl : (backTo pos (starEach [b] X.env)).any (·.1) = false := by rfl) (hd : (x == ("__debug__" : Str)) = false := by decide) : PI X tg (.Call (.Name x p) [a, b] [] pos) (iComb X.K ta) := by
  refine ⟨fun pins s σ H R I h => ?_⟩
  refine Call_ (ld_glob I hg hm (PyProof.Rows.callWith_type1 (thn (ha.run pos pins s σ H _ I h) fun us s1 ⟨vs, H1, I1, r1, q1⟩ => ?_) hs hpl) hd)
  obtain ⟨l, xs, r, rfl, hq, hl, hr, q⟩ := q1
  cases r1 with
  | cons r0 rr =>
    cases rr with
    | cons r' rr =>
      cases rr
      cases r0
      obtain ⟨t, rfl⟩ := r'
      refine call_cmb (by omega) (by omega) fun prog' w' => ?_
      rcases hq with hq | hq
      · obtain ⟨its, rv, pl, hz⟩ := I1.list hq
        have hlen : its.length ≤ 1000 := by rw [← rv.length]; exact hl
        obtain ⟨o, ho, hc, n, hd⟩ := pl.isList
        refine wpAny_collect_seq l (.inl rfl) ho hc hd (fun h1 k1 => ⟨by simpa using hlen, fun h' hit hP k => ?_⟩) (by rw [List.size_toArray, sizeLine_eq]; omega)
        exact cmb_it (s := s1) (h1 := h1) I1 rv hlen hr k1 hit hP k q
      · obtain ⟨its, rv, ⟨o, ho, hc, n, hd⟩, hz⟩ := I1.tuple hq
        have hlen : its.length ≤ 1000 := by rw [← rv.length]; exact hl
        refine wpAny_collect_seq l (.inr rfl) ho hc hd (fun h1 k1 => ⟨by simpa using hlen, fun h' hit hP k => ?_⟩) (by rw [List.size_toArray, sizeLine_eq]; omega)
        exact cmb_it (s := s1) (h1 := h1) I1 rv hlen hr k1 hit hP k q
end
end L2
end
section
set_option Elab.async false
set_option linter.all false
set_option maxRecDepth 100000
set_option maxHeartbeats 4000000
namespace L2
open PySem PySem.Spec PyProof.Rows CpComb
section
variable {X : Cx} {tg : Expr}
def iCombR (te tb : TE) : TI := fun σ H R => te σ H fun x H1 => ∃ n : Nat, x = .int (n : Int) ∧ n ≤ 1000 ∧ tb σ H1 fun y H2 => ∃ r : Nat, y = .int (r : Int) ∧ r ≤ 1000 ∧ R (Itm (rgV 0 n) r) H2
theorem pi_combR {e b : Expr} {te tb : TE} {x : Str} {p p2 pos pos2 : Pos} (hcalm : X.calm = true) (hg : Gl X x) (hm : X.mg x = some (.type "itertools.combinations")) (hg2 : Gl X "range") (hm2 : X.mg "range" = none) (ha : PE X e te) (hb : PE X b tb)
    (na : starEach [e] X.env = (false, eval e X.env) :: starEach [] X.env := by rfl) (hs : starEach [.Call (.Name "range" p2) [e] [] pos2, b] X.env = (false, eval (.Call (.Name "range" p2) [e] [] pos2) X.env) :: starEach [b] X.env := by rfl) (nb : starEach [b] X.env = (false, eval b X.env) :: starEach [] X.env := by rfl)
    (hpl : (backTo pos (starEach [b] X.env)).any (·.1) = false := by rfl) (hd : (x == ("__debug__" : Str)) = false := by decide) : PI X tg (.Call (.Name x p) [.Call (.Name "range" p2) [e] [] pos2, b] [] pos) (iCombR te tb) := by
  refine ⟨fun pins s σ H R I h => ?_⟩
  refine Call_ (ld_glob I hg hm (PyProof.Rows.callWith_type1 (args_cons (Call_ (ld_blt I hg2 hm2 boot_range (PyProof.Rows.callWith_type1 (one_arg ha I h (fun v1 s2 x1 H2 I2 r1 q => ?_) na) na))) hs) hs hpl) hd)
  obtain ⟨n, rfl, hn, q⟩ := q
  obtain ⟨t, rfl⟩ := r1
  refine call_range_1 ?_
  have hro := IsRange.new s2.heap 0 (n : Int) 1 s2.toks t (s2.toks + 1)
  have I3 : Inv X pins σ H2 { s2 with heap := s2.heap.push { cls := .type "range", data := .fields #[.int 0 s2.toks, .int (n : Int) t, .int 1 (s2.toks + 1)] }, toks := s2.toks + 1 + 1 } := I2.kept (t' := s2.toks + 1 + 1) fun b o e => Heap.get?_push_of_some _ e
  generalize hs3 : ({ s2 with heap := s2.heap.push { cls := .type "range", data := .fields #[.int 0 s2.toks, .int (n : Int) t, .int 1 (s2.toks + 1)] }, toks := s2.toks + 1 + 1 } : Shared) = s3 at I3
  have hr3 : IsRange s3.heap s2.heap.objs.size 0 (n : Int) 1 s2.toks t (s2.toks + 1) := by rw [← hs3]; exact hro
  have fp : ∀ b ∈ [s2.heap.objs.size], FpOk X pins H2 b := fun b hb => by
    rw [List.mem_singleton.mp hb]
    exact I2.fpOk (Nat.le_refl _) (I2.hok.fresh (Nat.le_refl _))
  have I4 := I3.pinned fp fun b hb => by
    rw [List.mem_singleton.mp hb]
    exact ⟨_, hr3, fun v q => nomatch q⟩
  refine args_cons (thn (hb.run _ _ σ H2 _ I4 q) fun w s5 ⟨y, H5, I5, r5, q5⟩ => args_nil ?_) nb
  obtain ⟨r, rfl, hr, q5⟩ := q5
  obtain ⟨t2, rfl⟩ := r5
  have hR : IsRange s5.heap s2.heap.objs.size 0 (n : Int) 1 s2.toks t (s2.toks + 1) := (I5.pin (_, _) (List.mem_append_right _ (List.mem_append_right _ (mem_pinsAt (List.mem_singleton.mpr rfl) hr3)))).1
  have I6 := I5.unpinned
  refine call_cmb (by omega) (by omega) fun prog' w' => ?_
  refine collect_range (n := ((n : Int) - 0).toNat) (I6.ok.hd hcalm) hR (small_one (by omega) (by omega) (by omega) (by omega)) (by rw [rangeSize_one]; split <;> omega) (by omega) fun h1 tk acc k1 items => ?_
  have rv := vals_rg items
  have hlen : acc.toList.length ≤ 1000 := by rw [← rv.length, rgV_length]; omega
  refine ⟨hlen, fun h' hit hP k2 => ?_⟩
  exact cmb_it (s := { s5 with toks := tk }) (h1 := h1) (I6.tok tk) rv hlen hr k1 hit hP k2 q5
end
end L2
end
section
set_option Elab.async false
set_option linter.all false
set_option maxRecDepth 100000
set_option maxHeartbeats 4000000
namespace DL
open PySem PySem.Spec L2 PyProof.Rows CpComb
variable [tB : Tb] [gR : Gr]
section
variable {P : Program} {w : World} {K : PySem.W.Frag} {mg : Str → Option Value} {base : Heap} {X : Cx} {N : List Str} {sc fs : Scope} {k : Nat}
theorem rvs_comb {F : Hp} : ∀ {vs : List V} {xs : List DV} (_ : RVs K F vs xs) (r i : Nat) {y : List DV} (_ : (combL xs r)[i]? = some y), ∃ c, (combL vs r)[i]? = some c ∧ RVs K F c y
  | vs, xs, rv, 0, i, y, h => by
    rw [combL_zero] at h ⊢
    cases i with
    | zero => cases h; exact ⟨[], rfl, .nil⟩
    | succ i => cases h
  | _, _, .nil, r + 1, i, y, h => nomatch h
  | v :: vs, x :: xs, .cons r1 rv, r + 1, i, y, h => by
    have hl := len_comb r rv.length
    rw [combL] at h ⊢
    by_cases z : i < (combL xs r).length
    · rw [List.getElem?_append_left (by rw [List.length_map]; exact z), List.getElem?_map] at h
      obtain ⟨b, hb, rfl⟩ := Option.map_eq_some_iff.mp h
      obtain ⟨ws, h1, h2⟩ := rvs_comb rv r i hb
      exact ⟨v :: ws, by rw [List.getElem?_append_left (by rw [List.length_map, hl]; exact z), List.getElem?_map, h1]; rfl, .cons r1 h2⟩
    · rw [List.getElem?_append_right (by rw [List.length_map]; omega), List.length_map] at h
      obtain ⟨ws, h1, h2⟩ := rvs_comb rv (r + 1) _ h
      exact ⟨ws, by rw [List.getElem?_append_right (by rw [List.length_map, hl]; omega), List.length_map, hl]; exact h1, h2⟩
theorem comb_src {F0 : Hp} {vs : List V} {xs : List DV} (rv : RVs K F0 vs xs) (r : Nat) : Src K F0 (Itm vs r) ((combL xs r).map mkT) (fun _ => True) := fun F H st e R iv => by
  have hl : (combL vs r).length = (combL xs r).length := len_comb r rv.length
  refine ⟨fun i x hx => ?_, by show (combL vs r).length ≤ _; rw [List.length_map, hl]; exact Nat.le_refl _⟩
  rw [List.getElem?_map] at hx
  obtain ⟨y, hy, rfl⟩ := Option.map_eq_some_iff.mp hx
  obtain ⟨c, hc, rc⟩ := rvs_comb rv r i hy
  refine ⟨(List.getElem?_eq_some_iff.mp hc).1, fun v H' ⟨T, c', e1, hT, hc', e2⟩ => ?_⟩
  subst e1 e2
  rw [hc] at hc'
  cases hc'
  obtain ⟨R', t⟩ := R.frz (o := .tup c) hT
  exact ⟨_, t, R', mkT_rv upd_same ((rc.mono e).mono t.ex)⟩
def qiComb (ta : TDa) : TDi := fun ε st Q => ta ε st fun vs s1 => match vs with
  | [x, .d (.int i)] => (match sitems s1 x with
    | some xs => (0 ≤ i ∧ i ≤ 1000 ∧ xs.length ≤ 1000) ∧ Q ((combL xs i.toNat).map mkT) (fun _ => True) s1
    | none => False)
  | _ => False
theorem di_comb {tg a b : Expr} {ta : TDa} {x : Str} {p pos : Pos} (c : Cok P w K mg base X N sc fs k) (hg : glB sc x = true) (hm : mg x = some (.type "itertools.combinations")) (h : DA X [a, b] ta)
    (hs : starEach [a, b] X.env = (false, eval a X.env) :: starEach [b] X.env := by rfl) (hpl : (backTo pos (starEach [b] X.env)).any (·.1) = false := by rfl) : DI X tg (.Call (.Name x p) [a, b] [] pos) (qiComb ta) := by
  obtain ⟨t1, p1, a1⟩ := h
  have g := gl_of c hg
  refine ⟨⟨_, pi_comb g.1 (by rw [c.hmg]; exact hm) p1 hs hpl g.2.2, fun F σ H ε st Qd R' R E h kk => ?_⟩⟩
  refine a1 F σ H ε st _ _ R E h fun F1 vs H1 xs s1 t1 R1 r q => ?_
  split at q
  · rename_i x i
    cases r with
    | cons r rr =>
      cases rr with
      | cons r2 rr =>
        cases rr
        cases rv_int r2
        split at q
        rotate_left
        · exact q.elim
        rename_i l el
        obtain ⟨⟨i0, i1, hl⟩, q⟩ := q
        obtain ⟨pa, vs, rfl, hq, s⟩ := sitems_rv R1 r el
        refine ⟨pa, vs, i.toNat, ?_, hq, by rw [s.length]; exact hl, by omega, kk F1 _ H1 _ _ s1 t1 R1 (comb_src s i.toNat) q⟩
        rw [show ((i.toNat : Nat) : Int) = i by omega]
  · exact q.elim
def qiCombR (te tb : TD) : TDi := fun ε st Q => te ε st fun x s1 => match x with
  | .d (.int n) => (0 ≤ n ∧ n ≤ 1000) ∧ tb ε s1 fun y s2 => (match y with
    | .d (.int r) => (0 ≤ r ∧ r ≤ 1000) ∧ Q ((combL (rngD 0 n.toNat) r.toNat).map mkT) (fun _ => True) s2
    | _ => False)
  | _ => False
theorem di_combR {tg e b : Expr} {te tb : TD} {x : Str} {p p2 pos pos2 : Pos} (c : Cok P w K mg base X N sc fs k) (hg : glB sc x = true) (hm : mg x = some (.type "itertools.combinations")) (hg2 : glB sc "range" = true) (hm2 : mg "range" = none) (he : DE X e te) (hb : DE X b tb)
    (na : starEach [e] X.env = (false, eval e X.env) :: starEach [] X.env := by rfl) (hs : starEach [.Call (.Name "range" p2) [e] [] pos2, b] X.env = (false, eval (.Call (.Name "range" p2) [e] [] pos2) X.env) :: starEach [b] X.env := by rfl) (nb : starEach [b] X.env = (false, eval b X.env) :: starEach [] X.env := by rfl)
    (hpl : (backTo pos (starEach [b] X.env)).any (·.1) = false := by rfl) : DI X tg (.Call (.Name x p) [.Call (.Name "range" p2) [e] [] pos2, b] [] pos) (qiCombR te tb) := by
  obtain ⟨t1, p1, a1⟩ := he
  obtain ⟨t2, p2', a2⟩ := hb
  have g := gl_of c hg
  have g2 := gl_of c hg2
  refine ⟨⟨_, pi_combR c.calm g.1 (by rw [c.hmg]; exact hm) g2.1 (by rw [c.hmg]; exact hm2) p1 p2' na hs nb hpl g.2.2, fun F σ H ε st Qd R' R E h kk => ?_⟩⟩
  refine a1 F σ H ε st _ _ R E h fun F1 v H1 x1 s1 st1 R1 r1 q => ?_
  split at q
  rotate_left
  · exact q.elim
  rename_i n
  cases rv_int r1
  obtain ⟨⟨n0, n1⟩, q⟩ := q
  refine ⟨n.toNat, by rw [show ((n.toNat : Nat) : Int) = n by omega], by omega, ?_⟩
  refine a2 F1 σ H1 ε s1 _ _ R1 (E.mono st1.ex) q fun F2 u H2 y1 s2 st2 R2 r2 q => ?_
  split at q
  rotate_left
  · exact q.elim
  rename_i r
  cases rv_int r2
  obtain ⟨⟨r0, r1⟩, q⟩ := q
  refine ⟨r.toNat, by rw [show ((r.toNat : Nat) : Int) = r by omega], by omega, ?_⟩
  have rv : RVs X.K F2 (rgV 0 ((n.toNat : Nat) : Int)) (rngD 0 n.toNat) := by
    have := rg_rvs (K := X.K) (F := F2) ((n.toNat : Nat) : Int)
    rwa [Int.toNat_natCast] at this
  exact kk F2 _ H2 _ _ s2 (st1.trans st2) R2 (comb_src rv r.toNat) q
end
end DL
end
section
set_option Elab.async false
set_option linter.all false
set_option maxRecDepth 100000
set_option maxHeartbeats 4000000
namespace CpComb
open PySem PySem.Spec PyProof.Rows L2
abbrev tupO (ws : List Value) : Obj := { cls := .type "tuple", data := .seq ws.toArray }
section
variable {prog : Program} {w : World} {A : Around} {E : Value → Shared → Prop} {s : Shared} {it P : Addr} {us : List Value} {r i : Nat}
/-- the tuples that stand in the list so far -/
structure Got (h : Heap) (n0 : Nat) (S it : Addr) (Ts : List Addr) (L : List (List Value)) : Prop where
  len : Ts.length ≤ L.length
  at' : ∀ (j : Nat) T ws, Ts[j]? = some T → L[j]? = some ws → h.get? T = some (tupO ws)
  nd : Ts.Nodup
  ne : ∀ T ∈ Ts, T ≠ S ∧ T ≠ it ∧ n0 ≤ T ∧ T < h.objs.size
end
end CpComb
end
section
set_option Elab.async false
set_option linter.all false
set_option maxRecDepth 100000
set_option maxHeartbeats 400000
namespace CpComb
open PySem PySem.Spec PyProof.Rows L2
end CpComb
end
section
set_option Elab.async false
set_option linter.all false
set_option maxRecDepth 100000
set_option maxHeartbeats 4000000
namespace L2
open PySem PySem.Spec PyProof.Rows CpComb
section
variable {X : Cx} {pins : List (Addr × Obj)} {σ : St} {H : Hp} {s : Shared} {h' : Heap}
theorem Inv.more {H' : Hp} {t' : Nat} (I : Inv X pins σ H s) (k : ∀ b o, s.heap.get? b = some o → h'.get? b = some o) (eq : ∀ b o, s.heap.get? b = some o → H' b = H b) (hok : HOk X.prog X.w H' h') : Inv X pins σ H' { s with heap := h', toks := t' } := by
  have there : ∀ b u, H b = some u → ∃ o, s.heap.get? b = some o := fun b u e => objOk_get (I.hok b u e)
  refine I.un ⟨fun b ob q _ _ _ => k b ob q, fun b ob q _ _ _ => ⟨ob.slots, k b ob q⟩, fun b ob q n _ => by rw [eq b ob q]; exact n, fun b ob q _ => ⟨ob, k b ob q⟩, fun b xs q => ?_, fun b o u q => ?_, fun b ps q => ⟨#[], ?_⟩⟩ hok
  · obtain ⟨o, e⟩ := there b _ q
    rw [eq b o e]; exact q
  · obtain ⟨o', e⟩ := there b _ q
    rw [eq b o' e]; exact q
  · obtain ⟨o', e⟩ := there b _ q
    rw [eq b o' e, q]; simp
end
end L2
end
section
set_option Elab.async false
set_option linter.all false
set_option maxRecDepth 100000
set_option maxHeartbeats 4000000
namespace DL
open PySem PySem.Spec L2 PyProof.Rows CpComb
end DL
end
section
set_option Elab.async false
set_option linter.all false
set_option maxRecDepth 100000
set_option maxHeartbeats 2000000
namespace DL
open PySem PySem.Spec L2 PyProof.Rows
end DL
end
section
set_option Elab.async false
set_option linter.all false
set_option maxRecDepth 100000
set_option maxHeartbeats 2000000
namespace DL
open PySem PySem.Spec L2 PyProof.Rows
end DL
end
section
set_option Elab.async false
set_option linter.all false
set_option maxRecDepth 100000
set_option maxHeartbeats 4000000
namespace EX
open PySem PySem.Spec PySem.W PySem.Calls PyProof.Rows L2
section
variable {prog : Program} {w : World} {A : Around} {E : Value → Shared → Prop} {h : Heap} {g : Array GenState} {d : Drawn} {t : Nat} {os : OsState}
variable {nm q : Str} {C N : Addr} {bs bm : List Value} {sn : List Str} {sub : List Value} {ab : Bool} {col : Option Bool} {dd : Option Addr} {k0 k1 k2 k3 k5 : Option Value}
/-- the bound ValueError.__init__ is called -/
theorem call_mw {u e t0 : Addr} {rest : List Value} {Q : Value → Shared → Prop}
    (clsAt : h.get? C = some (excClassObj nm q C N bs bm true sn sub ab col dd k0 k1 k2 k3 k5 "ValueError.__new__"))
    (exAt : h.get? e = some (HandSPX.excO C t0)) (mwAt : h.get? u = some (kxs_mw "ValueError.__init__" e)) (few : rest.length ≤ sizeLine)
    (fin : ∀ h2 t1, (∀ b o, b ≠ e → h.get? b = some o → h2.get? b = some o) → h2.get? e = some (HandSPX.excO C t1) → Q .none ⟨h2, g, d, t, os⟩) :
    wpAny (model prog w) A (call (.ref u) rest) Q E ⟨h, g, d, t, os⟩ := by
  refine wpAny_call (codeAny_of_tree ?_)
  show wpAny _ A.in1 (callAny (.ref u) ⟨rest, []⟩) _ _ _
  simp only [callAny]
  refine wpAny_bind (wpAny_load mwAt ?_)
  simp only [kxs_mw, show (Value.type "method-wrapper" == Value.type "method" || Value.type "method-wrapper" == Value.type "builtin_function_or_method" || Value.type "method-wrapper" == Value.type "method-wrapper") = true by decide, if_true]
  refine KFB.if_so (by decide) ?_
  refine wpAny_bind (check_bound_init F.excBase_ValueError.toExcCallFacts clsAt exAt rfl ?_)
  refine wpAny_bind (wpAny_pure (wpAny_pure ?_))
  refine ⟨Code.quiet_builtin _ (by decide +kernel), codeAny_builtin F.excBase_ValueError.initEntry ?_⟩
  rw [Around.under_plainId F.excBase_ValueError.init.plain _]
  wp_walk
  refine fin _ h.objs.size (fun b o hb ho => ?_) ?_
  · rw [Heap.get?_update_other _ _ (Ne.symm hb)]
    exact Heap.get?_push_of_some _ ho
  · rw [Heap.get?_update_self _ (Heap.get?_push_of_some _ exAt) rfl]
    rfl
end
/-- the exception with its dict, told behind the call -/
theorem told {P : Program} {w : World} {H : Hp} {h0 h3 : Heap} {e C dx t1 : Addr} {fl : List Addr} {fs : List (Str × V)} {mA : Str → Option Value} (ok0 : HOk P w H h0) (eAt : H e = some (exo e C none))
    (kp : ∀ b o, b ≠ e → h0.get? b = some o → h3.get? b = some o) (far : h0.objs.size ≤ dx)
    (ex : h3.get? e = some ({ cls := .ref C, dict := some dx, data := .fields #[.ref t1, .none, .none, .none, .bool false, .none] } : Obj)) (nsd : h3.Ns1 dx mA) (rl : ∀ y, RelO (fs.lookup y) (mA y)) :
    Un fl [] H (upd (upd H dx (exd dx fs)) e (exo e C (some dx))) h0 h3 ∧ HOk P w (upd (upd H dx (exd dx fs)) e (exo e C (some dx))) h3 := by
  have nodx : H dx = none := ok0.fresh far
  have old : ∀ {b : Addr} {o : Obj}, h0.get? b = some o → b ≠ dx := fun {b o} z => Nat.ne_of_lt (Nat.lt_of_lt_of_le (Heap.lt_size z) far)
  have noe : ∀ {b : Addr}, H b = none → b ≠ e := fun {b} n z => by
    rw [z, eAt] at n
    cases n
  refine ⟨{
    keep := fun b o z n _ _ => kp b o (noe n) z
    slot := fun b o z n _ _ => ⟨o.slots, kp b o (noe n) z⟩
    free := fun b o z n _ => by rw [upd_ne (noe n), upd_ne (old z)]; exact n
    there := fun b o z _ => by
      by_cases hb : b = e
      · exact ⟨_, by rw [hb]; exact ex⟩
      · exact ⟨o, kp b o hb z⟩
    tups := fun b xs z => by rw [upd_ne (at_ne eAt z exo_tup), upd_ne (ne_of_none z nodx)]; exact z
    frzs := fun b o v z => by rw [upd_ne (at_ne eAt z exo_frz), upd_ne (ne_of_none z nodx)]; exact z
    tbls := fun b ps z => ⟨#[], by rw [upd_ne (at_ne eAt z exo_tbl), upd_ne (ne_of_none z nodx), z]; simp⟩ }, fun b o z => ?_⟩
  by_cases hb : b = e
  · subst hb
    rw [upd_same] at z
    cases z
    exact exo_ok ex
  · rw [upd_ne hb] at z
    by_cases hd : b = dx
    · subst hd
      rw [upd_same] at z
      cases z
      exact exd_ok nsd rl
    · rw [upd_ne hd] at z
      exact (ok0 b o z).stay (fun c v hc y => kp c v (by
          rcases hc with hc | hc
          · rw [hc]
            exact hb
          · exact at_ne eAt hc exo_own) y)
        (fun c hc => by rw [upd_ne (at_ne eAt hc exo_own), upd_ne (ne_of_none hc nodx)]; exact hc) (fun c xs hc => by rw [upd_ne (at_ne eAt hc exo_tup), upd_ne (ne_of_none hc nodx)]; exact hc)
abbrev scF (nms : List (Str × NameKind)) : Scope := { kind := .function, names := nms, isGenerator := false, isCoroutine := false, more := [] }
/-- what the written part says of an own error class with an own __init__ over ValueError -/
structure Ini (P : Program) (K : Frag) (C fI cda cc : Addr) (qual txt : Str) (args : Arguments) (body : List Stmt) (nms : List (Str × NameKind)) (fd : FuncData) : Prop where
  T : OexC K C
  fdI : ∃ dV kV doc pm an ct, fd = ksFn "__init__" qual args body (scF nms) dV kV doc pm an (.ref cda) ct cc
  look : ∃ oc od osl, K.lookup fI = some ⟨oc, od, .func fd, osl⟩
  code : codeIn K (.ref cda) qual = true
  file : ∃ ccl cdd ccs vs fl tf, K.lookup cda = some ⟨ccl, cdd, .fields vs, ccs⟩ ∧ vs[2]? = some (.str fl tf) ∧ ((P.main.file : Str) == fl) = true
  cell : ∃ cl cld csl, K.lookup cc = some ⟨cl, cld, .cell (some (.ref C)), csl⟩
  sup : nsIn K mainGlobals "super" = some none
  top : (P.main.scope.names.lookup ("super" : Str)).isSome = false
  opq : nsIn K cStatics "thirdparty.any" = some none
  mth : ks_superIn K C C "__init__" = some (some (.builtin "ValueError.__init__"))
  sVE : subIn K (.ref C) (.type "ValueError") = some true
  sCC : mroIn K C (.ref C) = some true
  kSup : nms.lookup ("super" : Str) = some .globalImplicit
  kCls : nms.lookup ("__class__" : Str) = some .free
  kSelf : nms.lookup ("self" : Str) = some .local
  fst : ∃ ar, (args.posonlyargs ++ args.args).head? = some ar ∧ ar.arg = "self"
  noCell : ∀ y ∈ nms, y.2 ≠ .cell
section
variable {P : Program} {w : World} {K : Frag} {mg : Str → Option Value} {base : Heap} {C fI cda cc e : Addr} {qual txt : Str} {ags : Arguments} {body rest : List Stmt} {nms : List (Str × NameKind)} {fd : FuncData} {A : Around} {s : Shared}
/-- the state of __init__'s frame: the exception has a dict | none as yet -/
theorem super_ok {p0 p1 p2 p3 p4 p5 : Pos} {j : Nat} {L : Addr} {pl : Sem Bool} {m : Str → Option Value} {t0 : Addr} {Q : Flow → Shared → Prop} {E : Value → Shared → Prop} (I : Ini P K C fI cda cc qual txt ags body nms fd)
    (M : Mod K mg base) (bs : ∀ b o, base.get? b = some o → s.heap.get? b = some o) (ns : s.heap.Ns L m) (hself : m "self" = some (.ref e)) (he : s.heap.get? e = some (HandSPX.excO C t0))
    (ev : eval (.Call (.Attribute (.Call (.Name "super" p0) [] [] p1) "__init__" p2) [.Constant (.str txt) j p3] [] p4) (ksEnv qual (scF nms) L fI (.ref cda) cc) = (do
      let ov ← attributeBase (.Call (.Name "super" p0) [] [] p1) "__init__" (ksEnv qual (scF nms) L fI (.ref cda) cc) (eval (.Call (.Name "super" p0) [] [] p1) (ksEnv qual (scF nms) L fI (.ref cda) cc))
      standAt p2.atName
      let (f, first) ← holding [ov] (getMethod ov "__init__" pl)
      callWith p4 f first (backTo p4 (starEach [.Constant (.str txt) j p3] (ksEnv qual (scF nms) L fI (.ref cda) cc))) []))
    (h : ∀ s' t1, (∀ b o, b ≠ e → s.heap.get? b = some o → s'.heap.get? b = some o) → s'.heap.get? e = some (HandSPX.excO C t1) → s'.os = s.os → s'.gens = s.gens → wpAny (model P w) A (execs rest (ksEnv qual (scF nms) L fI (.ref cda) cc)) Q E s') :
    _root_.PySem.wpAt (model P w) A (.func body (ksEnv qual (scF nms) L fI (.ref cda) cc)) (execs (.Expr (.Call (.Attribute (.Call (.Name "super" p0) [] [] p1) "__init__" p2) [.Constant (.str txt) j p3] [] p4) p5 :: rest) (ksEnv qual (scF nms) L fI (.ref cda) cc)) Q E s := by
  have X : K.In s.heap := M.kin.keeps bs
  obtain ⟨nm, q, N, bss, bm, sn, sub, ab, col, dd, k0, k1, k2, k3, k5, hC, hbm⟩ := I.T.cls
  obtain ⟨dV, kV, doc, pm, an, ct, rfl⟩ := I.fdI
  obtain ⟨oc, od, osl, lk⟩ := I.look
  obtain ⟨ccl, cdd, ccs, vs, fl, tf, hcode, hvs, hfile⟩ := I.file
  obtain ⟨cl, cld, csl, hcell⟩ := I.cell
  obtain ⟨ar, har, harn⟩ := I.fst
  have hcl : clsIn K C = some { name := nm, bases := bss, mro := .ref C :: bm, ns := N, qualname := q, hasDict := true, slotNames := sn, subclasses := sub, abstract := ab, collection := col, hasDel := false } := by unfold clsIn; rw [hC] <;> rfl
  obtain ⟨mb, hb1, hb2⟩ := M.blt
  obtain ⟨hp, g, d, t, os⟩ := s
  have J : InstAt hp e (HandSPX.excO C t0) C none := ⟨he, rfl, rfl, trivial⟩
  refine ks_wpAt_execs_cons (ks_wpAt_Expr_any (ks_wpAt_MethodCall ?_ ev))
  refine ks_wpAt_super_base (env := ksEnv qual (scF nms) L fI (.ref cda) cc) I.kSup I.kCls (by decide) rfl (X _ _ lk) rfl har rfl (X _ _ hcode) rfl hvs hfile I.top ?_
  refine ks_loadName_global rfl I.kSup (loadGlobal_builtin (env := ksEnv qual (scF nms) L fI (.ref cda) cc) (M.glob.keeps bs) (mg_none_of M.kin M.glob I.sup) (hb1.keeps bs) ((hb2 _ (by decide)).trans (by decide +kernel)) ⟨rfl, ?_⟩)
  refine wpAny_loadName_free rfl I.kCls rfl ⟨_, X _ _ hcell, rfl⟩ ?_
  refine wpAny_loadName_local (v := .ref e) rfl (by rw [harn]; exact I.kSelf) ns (by rw [harn]; exact hself) ?_
  refine ks_wpAny_isType_cls (X _ _ hC) rfl ⟨rfl, ?_⟩
  refine ks_wpAny_call_super (X _ _ hC) rfl he rfl (fun c z => by cases z) (looks_mroIn X I.sCC) (fun h1 so1 kk1 => ?_)
  have X1 : K.In h1 := X.keeps kk1
  have J1 := kk1 _ _ he
  refine kxs_getMethod (K := K) kxs_ValueError so1 (looks_opaque X1 I.opq) (l₀ := .ref C :: bm) (fun A Q E s k q => wpAny_bind ((looks_clsIn X1 hcl) A _ E s k (wpAny_pure q))) rfl X1 (by
      have z := I.mth
      unfold ks_superIn at z
      rw [hcl] at z
      exact z) ((InstAt.type (M := model P w) (⟨J1, rfl, rfl, trivial⟩ : InstAt h1 e (HandSPX.excO C t0) C none)).andThen (looks_subIn X1 I.sVE)) (ks_ne X1 (⟨J1, rfl, rfl, trivial⟩ : InstAt h1 e (HandSPX.excO C t0) C none) hcl) rfl ?_
  show wpAny _ _ (callWith p4 (.ref h1.objs.size) [] (backTo p4 (starEach [.Constant (.str txt) j p3] (ksEnv qual (scF nms) L fI (.ref cda) cc))) []) _ _ _
  have mw : (h1.push (kxs_mw "ValueError.__init__" e)).get? h1.objs.size = some (kxs_mw "ValueError.__init__" e) := Heap.get?_push_at rfl rfl
  refine kxs_callWith (i := "ValueError.__init__") (x := e) (by rfl) (evalArgs_plain ?_)
  show wpAny _ _ (spliced ((false, eval (.Constant (.str txt) j p3) (ksEnv qual (scF nms) L fI (.ref cda) cc)) :: backTo p4 (starEach [] (ksEnv qual (scF nms) L fI (.ref cda) cc)))) _ _ _
  refine Calls.spliced_cons (Calls.Constant_str ?_)
  refine Calls.spliced_nil ⟨mw, ?_⟩
  have k2 : ∀ b o, hp.get? b = some o → (h1.push (kxs_mw "ValueError.__init__" e)).get? b = some o := fun b o z => Heap.get?_push_of_some _ (kk1 b o z)
  refine call_mw (k2 _ _ (X _ _ hC)) (k2 _ _ he) mw (by show 1 ≤ sizeLine; rw [sizeLine_eq]; omega) fun h2 t1 k3 e2 => ?_
  refine _root_.PySem.wpAt_of_wpAny (h _ t1 (fun b o hb z => k3 b o hb (k2 b o z)) e2 rfl rfl)
/-- self.f = v, the first one -/
theorem set_new {f : Str} {u : Value} {t0 : Addr} {hp : Heap} {g : Array GenState} {d : Drawn} {t : Nat} {os : OsState} {Q : Unit → Shared → Prop} {E : Value → Shared → Prop} (T : OexC K C) (X : K.In hp) (he : hp.get? e = some (HandSPX.excO C t0))
    (no : findIn K (.ref C) f = some none)
    (h : ∀ dx h' tk, (∀ b o, b ≠ e → hp.get? b = some o → h'.get? b = some o) → hp.objs.size ≤ dx → dx ≠ e → h'.get? e = some ({ cls := .ref C, dict := some dx, data := .fields #[.ref t0, .none, .none, .none, .bool false, .none] } : Obj) →
      h'.Ns1 dx (fun y => if y = f then some u else none) → Q () ⟨h', g, d, tk, os⟩) : wpAny (model P w) A (setAttr (.ref e) f u) Q E ⟨hp, g, d, t, os⟩ := by
  obtain ⟨nm, q, N, bss, bm, sn, sub, ab, col, dd, k0, k1, k2, k3, k5, hC, hbm⟩ := T.cls
  have hcl : clsIn K C = some { name := nm, bases := bss, mro := .ref C :: bm, ns := N, qualname := q, hasDict := true, slotNames := sn, subclasses := sub, abstract := ab, collection := col, hasDel := false } := by unfold clsIn; rw [hC] <;> rfl
  refine set_plain X (ox := HandSPX.excO C t0) (od := none) ⟨he, rfl, rfl, trivial⟩ T.sa ?_
  exact HandSPX.exc_osa X he hcl (show HandSPX.refsVE (.ref C :: bm) = true from hbm) rfl no fun h' tk dx kp far ne ex nsd => h dx h' tk kp far ne ex nsd
/-- the promise of an __init__ with these fields -/
def spI (C : Addr) (fs : List Str) : Sp := fun vs H Q _ => ∃ (e : Addr) (xs : List V), vs = .ref e :: xs ∧ xs.length = fs.length ∧ H e = some (exo e C none) ∧
  ∀ dx, H dx = none → dx ≠ e → Q .non (upd (upd H dx (exd dx ((fs.zip xs).reverse))) e (exo e C (some dx)))
theorem ns_on {h h' : Heap} {L e : Addr} {m : Str → Option Value} (ns : h.Ns L m) (ne : L ≠ e) (k : ∀ b o, b ≠ e → h.get? b = some o → h'.get? b = some o) : h'.Ns L m := by
  obtain ⟨oL, es, ep, hL, r⟩ := ns
  exact ⟨oL, es, ep, k _ _ ne hL, r⟩
/-- the body of __init__ but super().__init__ -/
def bodyI (p0 p1 p2 p3 p4 p5 : Pos) (j : Nat) (txt : Str) (rest : List Stmt) : List Stmt :=
  .Expr (.Call (.Attribute (.Call (.Name "super" p0) [] [] p1) "__init__" p2) [.Constant (.str txt) j p3] [] p4) p5 :: rest
theorem init1 {k : Nat} {f : Str} {p0 p1 p2 p3 p4 p5 q1 q2 q3 q4 : Pos} {j : Nat} {pl : Sem Bool}
    (I : Ini P K C fI cda cc qual txt ags (bodyI p0 p1 p2 p3 p4 p5 j txt [.Assign [.Attribute (.Name "self" q1) f q2] (.Name f q3) q4]) nms fd)
    (kf : nms.lookup f = some .local) (nf : f ≠ "self") (nd : (f == ("__debug__" : Str)) = false) (no : findIn K (.ref C) f = some none)
    (ev : ∀ L, eval (.Call (.Attribute (.Call (.Name "super" p0) [] [] p1) "__init__" p2) [.Constant (.str txt) j p3] [] p4) (ksEnv qual (scF nms) L fI (.ref cda) cc) = (do
      let ov ← attributeBase (.Call (.Name "super" p0) [] [] p1) "__init__" (ksEnv qual (scF nms) L fI (.ref cda) cc) (eval (.Call (.Name "super" p0) [] [] p1) (ksEnv qual (scF nms) L fI (.ref cda) cc))
      standAt p2.atName
      let (f, first) ← holding [ov] (getMethod ov "__init__" pl)
      callWith p4 f first (backTo p4 (starEach [.Constant (.str txt) j p3] (ksEnv qual (scF nms) L fI (.ref cda) cc))) []))
    (sw : ∀ L, swapsWith (.Name f q3) (some (.Attribute (.Name "self" q1) f q2)) q4.line (ksEnv qual (scF nms) L fI (.ref cda) cc) = pure false) :
    FnOk P w K mg base CX0 (k + 1) fI fd ["self", f] (spI C [f]) := by
  refine ⟨fun vs H Q E ⟨e, xs, ev, el, _⟩ => by rw [ev]; simpa using el, fun A outer s H args us vs Q E room en bd rv sp => ?_⟩
  obtain ⟨e, xs, rfl, el, eAt, fin⟩ := sp
  obtain ⟨x, rfl⟩ : ∃ x, xs = [x] := by
    match xs, el with
    | [x], _ => exact ⟨x, rfl⟩
  obtain ⟨u, rfl, ru⟩ : ∃ u, us = [.ref e, u] ∧ RelV x u := by
    cases rv with
    | cons r1 r2 =>
      cases r2 with
      | cons r3 r4 =>
        cases r4
        cases r1
        exact ⟨_, rfl, r3⟩
  have bs : ∀ b o, base.get? b = some o → s.heap.get? b = some o := fun b o z => (en.bs b o z).1
  have M : Mod K mg base := en.mod
  have X : K.In s.heap := M.kin.keeps bs
  obtain ⟨dV, kV, doc, pm, an, ct, rfl⟩ := I.fdI
  obtain ⟨oc, od, osl, lk⟩ := I.look
  obtain ⟨t0, he⟩ := exo_at en.hok eAt
  refine ks_codeAny_call_defAt (fd := ksFn "__init__" qual ags (bodyI p0 p1 p2 p3 p4 p5 j txt [.Assign [.Attribute (.Name "self" q1) f q2] (.Name f q3) q4]) (scF nms) dV kV doc pm an (.ref cda) ct cc) room.depth (X _ _ lk) rfl (M.nolimit.keeps bs) (codeRec_of X I.code) rfl bd I.noCell (fun y hy => ?_) (fun h1 ns1 kk1 => ?_) rfl rfl rfl
  · simp only [List.zip_cons_cons, List.zip_nil_left, List.mem_cons, List.not_mem_nil, or_false] at hy
    rcases hy with rfl | rfl
    · exact I.kSelf
    · exact kf
  have neL : s.heap.objs.size ≠ e := Nat.ne_of_gt (Heap.lt_size he)
  have mself : (((["self", f] : List Str).zip [Value.ref e, u] : List (Str × Value)).reverse.lookup ("self" : Str)) = some (Value.ref e) := by
    simp [List.lookup]
    rw [show ((PySem.Str.ofString "self" : Str) == f) = false from beq_false_of_ne (Ne.symm nf)]
  have mf : (((["self", f] : List Str).zip [Value.ref e, u] : List (Str × Value)).reverse.lookup f) = some u := by
    simp [List.lookup]
  refine super_ok (e := e) (t0 := t0) I M (fun b o z => kk1 b o (bs b o z)) ns1 mself (kk1 _ _ he) (ev _) fun s2 t1 kp e2 os2 ge2 => ?_
  obtain ⟨h2, g2, d2, tk2, os2'⟩ := s2
  have kp2 : ∀ b o, b ≠ e → s.heap.get? b = some o → h2.get? b = some o := fun b o hb z => kp b o hb (kk1 b o z)
  have X2 : K.In h2 := fun b o z => kp2 b o (fun y => by
    have z1 := en.bs b o (M.kin b o z)
    rw [y, eAt] at z1
    cases z1.2) (X b o z)
  have ns2 := ns_on ns1 neL kp
  refine wpAny_execs_cons (plainObj_wpAny_Assign_Attribute ?_ (sw _))
  refine wpAny_Name (wpAny_loadName_local rfl kf ns2 mf ?_) nd
  refine wpAny_Name (wpAny_loadName_local rfl I.kSelf ns2 mself ?_) (by decide)
  refine set_new I.T X2 e2 no fun dx h3 tk3 kp3 far ne ex nsd => ?_
  have far0 : s.heap.objs.size ≤ dx := by
    have : s.heap.objs.size < h2.objs.size := by
      obtain ⟨oL, _, _, z, _⟩ := ns2
      exact Heap.lt_size z
    omega
  obtain ⟨un, ok3⟩ := told (fl := frs outer) (fs := [(f, x)]) en.hok eAt (fun b o hb z => kp3 b o hb (kp2 b o hb z)) far0 ex nsd (relO_put (fs := []) ru fun y => True.intro)
  refine wpAny_execs_nil ?_
  exact ⟨.non, _, os2, by rw [show g2 = s.gens from ge2]; exact en.bare, un, ok3, rfl, fin dx (en.hok.fresh far0) ne⟩
end
end EX
end
section
set_option Elab.async false
set_option linter.all false
set_option maxRecDepth 100000
set_option maxHeartbeats 4000000
namespace DL
open PySem PySem.Spec L2 PyProof.Rows EX
variable [tB : Tb]
/-- of a call's exception: its class's name, its fields (the last one first), the store -/
abbrev XWc := Str → List (Str × DV) → Sto → Prop
/-- in a body, with the names -/
abbrev XWe := Str → List (Str × DV) → Env → Sto → Prop
def Fresh (H : Hp) (st : Sto) (dd : Addr) : Prop := H dd = none ∨ st dd ≠ none ∨ ∃ ps, H dd = some (.tbl ps)
theorem Fresh.back {F H F' H' : Hp} {st st' : Sto} {dd : Addr} (s : Step F H st F' H' st') (f : Fresh H' st' dd) : Fresh H st dd := by
  cases e : H dd with
  | none => exact .inl e
  | some u =>
    rcases tb_or u with ⟨ps, rfl⟩ | nt
    · exact .inr (.inr ⟨ps, e⟩)
    cases e2 : st dd with
    | some m => exact .inr (.inl (by rw [e2]; exact fun z => (nomatch z)))
    | none =>
      obtain ⟨h1, h2⟩ := s.pres dd u e nt e2
      rcases f with z | z | ⟨ps, z⟩
      · rw [h1] at z; cases z
      · exact absurd h2 z
      · rw [h1] at z; cases z; exact absurd rfl (nt ps)
abbrev PX (K : PySem.W.Frag) (F : Hp) (ws : List (Str × V)) (kvs : List (Str × DV)) : Prop := Paired (fun p q => p.1 = q.1 ∧ RV K F p.2 q.2) ws kvs
/-- the error classes without an own __init__: their errors have no dict -/
def bareN (x : Str) : Bool := decide (x ∈ (["NotComplex", "NotSquarefree", "NotCycle", "NotStable", "NotGraph", "NotTwo", "NotProper", "NothingLeft"] : List Str))
structure KX (K : PySem.W.Frag) (mg : Str → Option Value) (F H : Hp) (st : Sto) (W : XWc) (E : XK) : Prop where
  k : ∀ (F' H' : Hp) (st' : Sto) (x : Str) (C dd : Addr) (ws : List (Str × V)) (kvs : List (Str × DV)), Step F H st F' H' st' → Rs0 K F' H' st' → mg x = some (.ref C) → H' dd = some (.xd ws) → PX K F' ws kvs → Fresh H st dd → st' dd = none → F' dd = none → W x kvs st' → E (.ref C) (some dd) H'
  z : ∀ (F' H' : Hp) (st' : Sto) (x : Str) (C : Addr), Step F H st F' H' st' → Rs0 K F' H' st' → mg x = some (.ref C) → bareN x = true → W x [] st' → E (.ref C) none H'
theorem KX.step {K : PySem.W.Frag} {mg : Str → Option Value} {F H F1 H1 : Hp} {st st1 : Sto} {W : XWc} {E : XK} (k : KX K mg F H st W E) (s : Step F H st F1 H1 st1) : KX K mg F1 H1 st1 W E :=
  ⟨fun F' H' st' x C dd ws kvs t R hm hd pr fr sd fd w => k.k F' H' st' x C dd ws kvs (s.trans t) R hm hd pr (fr.back s) sd fd w, fun F' H' st' x C t R hm hb w => k.z F' H' st' x C (s.trans t) R hm hb w⟩
def hspX (K : PySem.W.Frag) (mg : Str → Option Value) (sp : XWc → SpD) : Sp := fun vs H Q E => ∃ F st xs Qd W, Rs0 K F H st ∧ RVs K F vs xs ∧ sp W xs st Qd ∧ @Kg _ Gr.tr _ _ (RV K) K F H st Qd Q ∧ KX K mg F H st W E
def wishX (X : Cx) (σ : L2.St) : XK := fun cls d H' => ∀ u s', XE X (fun c d' σ' H'' => c = cls ∧ d' = d ∧ σ' = σ ∧ H'' = H') u s' → X.xe u s'
theorem takes_wish (X : Cx) : Takes X (fun cls d σ H => wishX X σ cls d H) := fun u s' ⟨a, B, sI, pins, σ, H, cls, d, e, I, nb, up, sky, na, os, ag, w⟩ =>
  w u s' ⟨a, B, sI, pins, σ, H, cls, d, e, I, nb, up, sky, na, os, ag, rfl, rfl, rfl, rfl⟩
theorem wish_of {X : Cx} {W : WX} {cls : Value} {d : Option Addr} {σ : L2.St} {H : Hp} (tk : Takes X W) (h : W cls d σ H) : wishX X σ cls d H := fun u s' ⟨a, B, sI, pins, σ', H', cls', d', e, I, nb, up, sky, na, os, ag, e1, e2, e3, e4⟩ => by
  subst e1 e2 e3 e4
  exact tk u s' ⟨a, B, sI, pins, _, _, _, _, e, I, nb, up, sky, na, os, ag, h⟩
/-- the link of a body's wish and its context -/
structure Lx [G : Gr] (K : PySem.W.Frag) (mg : Str → Option Value) (W : XWe) (X : Cx) : Prop where
  li : ∀ (F H : Hp) (st : Sto) (σ : L2.St) (ε : Env), G.gr F H st → RE K F σ ε → KX K mg F H st (fun x kvs s => W x kvs ε s) (wishX X σ)
def Gr.ofX (K : PySem.W.Frag) (mg : Str → Option Value) (W : XWc) (E : XK) : Gr := ⟨fun F H st => KX K mg F H st W E, fun k s => k.step s⟩
/-- an error class of the text that is made with these fields -/
def XCl (P : Program) (w : World) (K : PySem.W.Frag) (mg : Str → Option Value) (base : Heap) (x : Str) (fs : List Str) : Prop :=
  ∃ (C fI : Addr) (fd : FuncData), mg x = some (.ref C) ∧ OexC K C ∧ PySem.W.findIn K (.ref C) "__init__" = some (some (.ref fI)) ∧ PySem.W.typeIn K (.ref fI) = some (.type "function") ∧
    FnOk P w K mg base CX0 1 fI fd ("self" :: fs) (spI C fs) ∧ Binds K fd ("self" :: fs) []
/-- a def of the text that keeps a promise, exceptions too -/
def ClX (P : Program) (w : World) (K : PySem.W.Frag) (mg : Str → Option Value) (base : Heap) (x : Str) (j : Nat) (sp : XWc → SpD) : Prop :=
  ∃ (f : Addr) (fd : FuncData) (ps : List Str), mg x = some (.ref f) ∧ PySem.W.keepIn K (.ref f) = true ∧ FnOk P w K mg base (L2.CX P w) j f fd ps (hspX K mg sp) ∧ Binds K fd ps []
def noX : XWc := fun _ _ _ => False
def FgX (W : XWc) : XWc := fun x kvs st => ∃ st', Le st' st ∧ W x kvs st'
section
variable [gR : Gr] {P : Program} {w : World} {K : PySem.W.Frag} {mg : Str → Option Value} {base : Heap} {X : Cx} {N : List Str} {sc fs : Scope} {k : Nat}
def qRaise (W : XWe) (x : Str) (fl : List Str) (ta : TDa) : TDs := fun _ ε st => ta ε st fun xs s1 => xs.length = fl.length ∧ fl.length ≤ 100 ∧ W x ((fl.zip xs).reverse) ε s1
theorem px_zip {F : Hp} : ∀ {fl : List Str} {vs : List V} {xs : List DV}, RVs K F vs xs → PX K F (fl.zip vs) (fl.zip xs)
  | [], _, _, _ => by simp; exact .nil
  | _ :: _, _, _, .nil => by simp; exact .nil
  | f :: fl, _, _, .cons r t => .cons ⟨rfl, r⟩ (px_zip t)
theorem px_app {F : Hp} : ∀ {a b : List (Str × V)} {c d : List (Str × DV)}, PX K F a c → PX K F b d → PX K F (a ++ b) (c ++ d)
  | _, _, _, _, .nil, h => h
  | _, _, _, _, .cons r t, h => .cons r (px_app t h)
theorem px_rev {F : Hp} : ∀ {a : List (Str × V)} {c : List (Str × DV)}, PX K F a c → PX K F a.reverse c.reverse
  | _, _, .nil => .nil
  | _, _, .cons r t => by rw [List.reverse_cons, List.reverse_cons]; exact px_app (px_rev t) (.cons r .nil)
theorem ds_raise {W : XWe} {x : Str} {fl : List Str} {e : Expr} {es : List Expr} {ta : TDa} {p pos pos' : Pos} (c : Cok P w K mg base X N sc fs k) (L : Lx K mg W X) (C : XCl P w K mg base x fl) (hk : 2 ≤ k) (hg : glB sc x = true) (ha : DA X (e :: es) ta)
    (he : starEach (e :: es) X.env = (false, eval e X.env) :: starEach es X.env := by rfl) (hpl : (backTo pos (starEach es X.env)).any (·.1) = false := by rfl) :
    DS X (.Raise (some (.Call (.Name x p) (e :: es) [] pos)) none pos') (qRaise W x fl ta) := by
  obtain ⟨C, fI, fd, hm, T, iC, tI, F1, hb⟩ := C
  obtain ⟨t1, p1, a1⟩ := ha
  obtain ⟨hX1, hX2, hX3, hX4, hX5, _⟩ := id c
  have g := gl_of c hg
  have F1' : FnOk X.prog X.w X.K X.mg X.base CX0 1 fI fd ("self" :: fl) (spI C fl) := by
    rw [hX1, hX2, hX3, hX4, hX5]
    exact F1
  have mk := pmk_oex (X := X) (es := es) (p := p) (pos := pos) (ds := []) (dvs := []) (by rw [hX3]; exact T) (by rw [hX3]; exact iC) (by rw [hX3]; exact tI) F1' (c.room.mono hk) (by rw [hX3]; exact hb) .nil (fun _ _ _ _ _ _ _ h => h.elim) g.1 (by rw [hX4]; exact hm) p1 g.2.2 he hpl
  refine ⟨⟨_, ps_raise c.calm (takes_wish X) mk, fun F σ H ε st Dd D R E h kk => ?_⟩⟩
  refine a1 F σ H ε st _ _ R E h fun F1 vs H1 xs s1 t1 R1 r ⟨hl, few, q⟩ => ?_
  have lv : vs.length = fl.length := r.length.trans hl
  refine ⟨by omega, fun a ha => ⟨a, vs, by rw [List.append_nil], lv, upd_same, fun dx hdx ne => ?_⟩⟩
  have hdx' : H1 dx = none := by rw [upd_ne ne] at hdx; exact hdx
  refine ⟨rfl, dx, (fl.zip vs).reverse, upd_same, by rw [upd_ne ne, upd_same], hdx', ?_⟩
  have eH : upd (del (upd (upd (upd H1 a (exo a C none)) dx (exd dx (fl.zip vs).reverse)) a (exo a C (some dx))) a) dx (.xd (fl.zip vs).reverse) = upd H1 dx (.xd (fl.zip vs).reverse) := by
    funext b
    by_cases h1 : b = dx
    · rw [h1, upd_same, upd_same]
    · rw [upd_ne h1, upd_ne h1]
      by_cases h2 : b = a
      · rw [h2, del_same, ha]
      · rw [del_ne h2, upd_ne h2, upd_ne h1, upd_ne h2]
  rw [eH]
  obtain ⟨f0, d0⟩ := R1.free hdx'
  obtain ⟨R2, t2⟩ := R1.hide (o := .xd (fl.zip vs).reverse) hdx'
  have L' : Lx X.K mg W X := by rw [hX3]; exact L
  exact (L'.li F1 H1 s1 σ ε R1.gr (E.mono t1.ex)).k F1 _ s1 x C dx (fl.zip vs).reverse (fl.zip xs).reverse t2 R2.toRs0 hm upd_same (px_rev (px_zip r)) (.inl hdx') d0 f0 q
/-- an error class without an own __init__ -/
def XC0 (K : PySem.W.Frag) (mg : Str → Option Value) (x : Str) : Prop :=
  ∃ C, mg x = some (.ref C) ∧ PySem.W.excIn K C HandSPX.veTail "ValueError.__new__" = true ∧ PySem.W.keepIn K (.ref C) = true ∧ PySem.W.subIn K (.ref C) (.type "BaseException") = some true ∧ PySem.W.typeIn K (.ref C) = some (.type "type") ∧ bareN x = true
omit gR tB in
/-- X() -/
theorem pmk_own0 {C : Addr} {bmB : List Value} {B newId initId : String} {x : Str} {p pos : Pos} (F : ExcBaseFacts B newId initId bmB) (q : PySem.W.excIn X.K C bmB newId = true) (gC : X.mg x = some (.ref C)) (kC : PySem.W.keepIn X.K (.ref C) = true) (r : Raises X (.ref C)) (hg : Gl X x)
    (hdb : (x == ("__debug__" : Str)) = false := by decide) : PMk X (.Call (.Name x p) [] [] pos) (fun _ H Q => Q (.ref C) none H) := by
  intro pins s σ H Q I h
  refine wpAny_Call_Name_kw (ld_glob I hg gC ?_ hdb)
  refine PySem.W.callWith_K0 I.kIn kC ?_
  show wpAny _ _ (call (.ref C) []) _ _ _
  obtain ⟨bm, N, nm, qn, bs, hdct, sn, sub, ab, col, dd, k0, k1, k2, k3, k5, mN, hC, hN, hni, T⟩ := exc_obj I.kIn q
  refine wpAny_call_exc_subT F T hC hN hni (fun h' e hm => ?_) (Nat.zero_le _)
  exact mk_of I hm r h (I.hok.gone hm.new)
def qRaise0 (W : XWe) (x : Str) : TDs := fun _ ε st => W x [] ε st
theorem ds_raise0 {W : XWe} {x : Str} {p pos pos' : Pos} (c : Cok P w K mg base X N sc fs k) (L : Lx K mg W X) (C : XC0 K mg x) (hg : glB sc x = true) : DS X (.Raise (some (.Call (.Name x p) [] [] pos)) none pos') (qRaise0 W x) := by
  obtain ⟨C, hm, q, kC, sB, tT, hb⟩ := C
  obtain ⟨hX1, hX2, hX3, hX4, hX5, _⟩ := id c
  have g := gl_of c hg
  have mk := pmk_own0 (X := X) (p := p) (pos := pos) PySem.F.excBase_ValueError (by rw [hX3]; exact q) (by rw [hX4]; exact hm) (by rw [hX3]; exact kC) (raises_own (by rw [hX3]; exact sB) (by rw [hX3]; exact tT)) g.1 g.2.2
  refine ⟨⟨_, ps_raise c.calm (takes_wish X) mk, fun F σ H ε st Dd D R E h kk => ?_⟩⟩
  have L' : Lx X.K mg W X := by rw [hX3]; exact L
  exact (L'.li F H st σ ε R.gr E).z F H st x C (Step.refl _ _ _) R.toRs0 hm hb h
/-- a call that may let an exception out -/
def qCallX (W : XWe) (sp : XWc → SpD) (ta : TDa) : TD := fun ε st Q => ta ε st fun xs s1 => sp (fun y kvs s => W y kvs ε s) xs s1 Q
theorem de_callX {W : XWe} {x : Str} {e : Expr} {es : List Expr} {ta : TDa} {p pos : Pos} {sp : XWc → SpD} {j : Nat} (c : Cok P w K mg base X N sc fs k) (L : Lx K mg W X) (hg : glB sc x = true) (C : ClX P w K mg base x j sp) (hj : j ≤ k)
    (ha : DA X (e :: es) ta) (he : starEach (e :: es) X.env = (false, eval e X.env) :: starEach es X.env := by rfl) (hpl : (backTo pos (starEach es X.env)).any (·.1) = false := by rfl) : DE X (.Call (.Name x p) (e :: es) [] pos) (qCallX W sp ta) := by
  obtain ⟨f, fd, ps, hm, hk, G, b⟩ := C
  obtain ⟨t1, p1, a1⟩ := ha
  obtain ⟨hX1, hX2, hX3, hX4, hX5, _⟩ := id c
  have g := gl_of c hg
  have G' : FnOk X.prog X.w X.K X.mg X.base (L2.CX X.prog X.w) k f fd ps (hspX X.K X.mg sp) := by
    rw [hX1, hX2, hX3, hX4, hX5]
    exact G.mono hj
  refine ⟨⟨_, pe_callS (E := wishX X) G' c.room g.1 (by rw [hX4]; exact hm) (by rw [hX3]; exact hk) (by rw [hX3]; exact b) (fun σ => passAt (W := fun cls d σ H => wishX X σ cls d H) (takes_wish X) σ) p1 g.2.2 he hpl, fun F σ H ε st Qd Q R E h kk => ?_⟩⟩
  refine a1 F σ H ε st _ _ R E h fun F1 vs H1 xs s1 t1 R1 r q => ?_
  refine ⟨F1, s1, xs, Qd, _, R1.toRs0, r, q, (kk.step t1).tr R1, ?_⟩
  have L' : Lx X.K mg W X := by rw [hX3]; exact L
  rw [hX4]
  exact L'.li F1 H1 s1 σ ε R1.gr (E.mono t1.ex)
/-- a call of such a def that lets nothing out -/
theorem de_callN {x : Str} {e : Expr} {es : List Expr} {ta : TDa} {p pos : Pos} {sp : XWc → SpD} {j : Nat} (c : Cok P w K mg base X N sc fs k) (hg : glB sc x = true) (C : ClX P w K mg base x j sp) (hj : j ≤ k)
    (ha : DA X (e :: es) ta) (he : starEach (e :: es) X.env = (false, eval e X.env) :: starEach es X.env := by rfl) (hpl : (backTo pos (starEach es X.env)).any (·.1) = false := by rfl) : DE X (.Call (.Name x p) (e :: es) [] pos) (qCall (sp noX) ta) := by
  obtain ⟨f, fd, ps, hm, hk, G, b⟩ := C
  obtain ⟨t1, p1, a1⟩ := ha
  obtain ⟨hX1, hX2, hX3, hX4, hX5, _⟩ := id c
  have g := gl_of c hg
  have G' : FnOk X.prog X.w X.K X.mg X.base (L2.CX X.prog X.w) k f fd ps (hspX X.K X.mg sp) := by
    rw [hX1, hX2, hX3, hX4, hX5]
    exact G.mono hj
  refine ⟨⟨_, pe_callS (E := fun _ => E0) G' c.room g.1 (by rw [hX4]; exact hm) (by rw [hX3]; exact hk) (by rw [hX3]; exact b) (fun σ pins H s e s' I cx => passL pins σ H s e s' I cx) p1 g.2.2 he hpl, fun F σ H ε st Qd Q R E h kk => ?_⟩⟩
  refine a1 F σ H ε st _ _ R E h fun F1 vs H1 xs s1 t1 R1 r q => ?_
  exact ⟨F1, s1, xs, Qd, noX, R1.toRs0, r, q, (kk.step t1).tr R1, fun _ _ _ _ _ _ _ _ _ _ _ _ _ _ _ _ z => z.elim, fun _ _ _ _ _ _ _ _ _ z => z.elim⟩
omit gR in
/-- THE RULE of a def that may raise -/
theorem fn_okX {x qual : Str} {s : Stmt} {f : Addr} {fd : FuncData} {ps : List Str} {sp : XWc → SpD} {t : XWe → TDs} (Fu : Fun K x qual s f fd) (S : FnScope N ps (defScope s)) (len : ∀ W xs st Q, sp W xs st Q → xs.length = ps.length)
    (hbody : ∀ [Gr] (W : XWe) X, Cok P w K mg base X N (defScope s) (defScope s) k → Lx K mg W X → DSs X (defBody s) (t W))
    (hsem : ∀ W xs st Q, sp W xs st Q → t (fun x kvs _ st' => FgX W x kvs st') { nx := fun _ st' => Fg Q (.d .none) st', rt := Fg Q } (startD N.length xs) st) : FnOk P w K mg base (L2.CX P w) (k + 1) f fd ps (hspX K mg sp) := by
  refine Fu.okX S (fun vs H Q E ⟨F, st, xs, Qd, W, R, r, h, kk, kx⟩ => r.length.trans (len W xs st Qd h)) (fun cdv A outer s' H vs Q E hr ⟨F, st, xs, Qd, W, R, r, h, kk, kx⟩ => ?_)
  have c : Cok P w K mg base (cxOf (L2.CX P w) P w K mg base N qual (defScope s) f cdv A outer s' H E) N (defScope s) (defScope s) k :=
    ⟨rfl, rfl, rfl, rfl, rfl, rfl, S.nd, S.kind, rfl, rfl, fun _ _ => rfl, hr, passes_of rfl⟩
  have tk : Takes (cxOf (L2.CX P w) P w K mg base N qual (defScope s) f cdv A outer s' H E) (fun cls d _ H => E cls d H) := takes_of rfl rfl rfl rfl
  have less : ∀ {F' H' : Hp} {st' st2 : Sto}, Step F H st F' H' st' → Le st2 st' → Step F H st F' H' st2 := fun {F' H' st' st2} t le => t.less le
  have lk : @Lx _ (Gr.ofX K mg W E) K mg (fun x kvs _ st' => FgX W x kvs st') (cxOf (L2.CX P w) P w K mg base N qual (defScope s) f cdv A outer s' H E) :=
    @Lx.mk _ (Gr.ofX K mg W E) _ _ _ _ fun F1 H1 st1 σ ε g _ => ⟨(fun F' H' st' x C dd ws kvs t R0 hm hd pr fr sd fd ⟨st2, le, q⟩ => by
      refine wish_of tk (g.k F' H' st2 x C dd ws kvs (t.less le) (R0.le le) hm hd pr fr ?_ fd q)
      · cases e2 : st2 dd with
        | none => rfl
        | some m =>
          have z := le dd m e2
          rw [sd] at z
          cases z), fun F' H' st' x C t R0 hm hb ⟨st2, le, q⟩ => wish_of tk (g.z F' H' st2 x C (t.less le) (R0.le le) hm hb q)⟩
  obtain ⟨ts, p, a⟩ := @hbody (Gr.ofX K mg W E) _ _ c lk
  have fin : ∀ F' v H' x' st', Step F H st F' H' st' → Rs0 K F' H' st' → RV K F' v x' → Fg Qd x' st' → Q v H' := fun F' v H' x' st' t R' r' ⟨st2, le, q⟩ => kk F' v H' x' st2 (less t le) (R'.le le).tr r' q
  refine ⟨ts, p, a F _ H (startD N.length xs) st _ _ (@Rs.mk _ (Gr.ofX K mg W E) _ _ _ _ R kx) (start_re r N) (hsem W xs st Qd h) (@KS.mk _ (Gr.ofX K mg W E) _ _ _ _ _ _ (fun F' σ' H' ε' st' t R' E' q => fin F' .non H' (.d .none) st' t (@Rs.toRs0 _ (Gr.ofX K mg W E) _ _ _ _ R') (.d .non) q)
    (fun F' v H' x' st' t R' r' q => fin F' v H' x' st' t (@Rs.toRs0 _ (Gr.ofX K mg W E) _ _ _ _ R') r' q) (fun _ _ _ _ _ _ _ _ z => z.elim) (fun _ _ _ _ _ _ _ _ z => z.elim))⟩
end
end DL
end
section
set_option Elab.async false
set_option linter.all false
set_option maxRecDepth 100000
set_option maxHeartbeats 4000000
namespace DL
open PySem PySem.Spec L2 PyProof.Rows EX
variable [tB : Tb]
/-- a caught error, kept by name: its object is pinned -/
abbrev cxE (X : Cx) (a : Addr) (oe : Obj) (pn : List (Addr × Obj)) : Cx := X.tr ((a, oe) :: pn) X.xe
theorem SP.weaken {X : Cx} {a : Addr} {oe : Obj} {pins : List (Addr × Obj)} {D : Ends} {f : Flow} {s : Shared} (ok : X.Ok) (h : SP (cxE X a oe (X.pn ++ pins)) [] D f s) : SP X pins D f s := by
  have un : ∀ {σ : L2.St} {H : Hp}, Inv (cxE X a oe (X.pn ++ pins)) [] σ H s → Inv X pins σ H s := fun {σ H} J =>
    ⟨ok, J.os, J.bare, J.base, J.loc, J.cell, J.free, J.freeC, fun p hp => J.pin p (List.mem_append_left _ (List.mem_cons_of_mem _ hp)), J.hok, J.len⟩
  cases f with
  | next => obtain ⟨σ, H, J, q⟩ := h; exact ⟨σ, H, un J, q⟩
  | brk => obtain ⟨σ, H, J, q⟩ := h; exact ⟨σ, H, un J, q⟩
  | cont => obtain ⟨σ, H, J, q⟩ := h; exact ⟨σ, H, un J, q⟩
  | ret u => obtain ⟨v, σ, H, J, r, q⟩ := h; exact ⟨v, σ, H, un J, r, q⟩
section
variable [gR : Gr] {P : Program} {w : World} {K : PySem.W.Frag} {mg : Str → Option Value} {base : Heap} {X : Cx} {N : List Str} {sc fs : Scope} {k : Nat}
def Gr.from (F H : Hp) (st : Sto) : Gr := ⟨fun F1 H1 st1 => Step F H st F1 H1 st1, fun a b => a.trans b⟩
/-- what was known, and a step from here -/
def Gr.fr2 (g : Gr) (F H : Hp) (st : Sto) : Gr := ⟨fun F1 H1 st1 => g.gr F1 H1 st1 ∧ Step F H st F1 H1 st1, fun a b => ⟨Gr.cl a.1 b, a.2.trans b⟩⟩
/-- what the written part says of the class that the clause names, and of those that it takes -/
def Takers (K : PySem.W.Frag) (mg : Str → Option Value) (xn : Str) (ok : Str → Bool) : Prop := ∃ Cn, mg xn = some (.ref Cn) ∧ ∀ x C, ok x = true → mg x = some (.ref C) → PySem.W.exmOne K (.ref C) (.ref Cn) = some true
/-- the frame stands in the stack's first place -/
def Stands (X : Cx) : Prop := X.stack = X.env :: X.outer ∧ X.env.frame = some X.env.locals
end
end DL
end
section
set_option Elab.async false
set_option linter.all false
set_option maxRecDepth 100000
set_option maxHeartbeats 4000000
namespace DL
open PySem PySem.Spec L2 PyProof.Rows EX
/-- what the written part says of an error class, for isinstance and for its fields -/
structure ExI (K : PySem.W.Frag) (C : Addr) : Prop where
  cl : (PySem.W.clsIn K C).isSome = true
  ga : PySem.W.findIn K (.ref C) "__getattribute__" = some (some (.builtin "BaseException.__getattribute__"))
  gt : PySem.W.findIn K (.ref C) "__getattr__" = some none
  sb : PySem.W.subIn K (.ref C) (.type "BaseException") = some true
  hd : PySem.W.hasDictIn K C = true
  ty : PySem.W.typeIn K (.ref C) = some (.type "type")
  ca : PySem.W.findIn K (.ref C) "__class__" = some (some (.builtin "object.__class__"))
  ob : PySem.W.mroIn K C (.type "object") = some true
structure ExG (K : PySem.W.Frag) : Prop where
  gs : PySem.W.specialIn K (.builtin "object.__class__") "__get__" = some (some (.builtin "getset_descriptor.__get__"))
  tk : PySem.W.takesIn K (.builtin "object.__class__") = some true
theorem kit_ref {K : PySem.W.Frag} {C D : Addr} {b : Bool} (hd : ExI K D) (hs : PySem.W.subIn K (.ref C) (.ref D) = some b) (hb : C = D → b = true) : PySem.W.kitOne K (.ref C) (.ref D) = some b := by
  unfold PySem.W.kitOne
  by_cases e : C = D
  · subst e
    rw [hb rfl]
    simp
  · rw [if_neg (by simpa using e)]
    show PySem.W.kitCls K (.ref C) (.ref D) = some b
    have e1 : ((PySem.W.clsIn K D).isSome && PySem.W.typeIn K (.ref D) == some (.type "type")) = true := by rw [hd.cl, hd.ty]; rfl
    show (if ((PySem.W.clsIn K D).isSome && PySem.W.typeIn K (.ref D) == some (.type "type")) = true then PySem.W.subIn K (.ref C) (.ref D) else none) = some b
    rw [if_pos e1]
    exact hs
section
variable [tB : Tb] [gR : Gr] {P : Program} {w : World} {K : PySem.W.Frag} {mg : Str → Option Value} {base : Heap} {X : Cx} {N : List Str} {sc fs : Scope} {k : Nat} {a C dd : Addr} {oe : Obj} {pn : List (Addr × Obj)}
theorem px_look {F : Hp} {f : Str} {x : DV} : ∀ {ws : List (Str × V)} {kvs : List (Str × DV)}, PX K F ws kvs → kvs.lookup f = some x → ∃ v, ws.lookup f = some v ∧ RV K F v x
  | _, _, .nil, e => by cases e
  | (f1, v1) :: ws, (f2, x2) :: kvs, .cons r t, e => by
    obtain ⟨r1, r2⟩ := r
    dsimp only at r1 r2
    subst r1
    by_cases h : f = f1
    · subst h
      have e' : some x2 = some x := by simpa [List.lookup] using e
      cases e'
      exact ⟨v1, by simp [List.lookup], r2⟩
    · have hb : (f == f1) = false := by simpa using h
      have e' : kvs.lookup f = some x := by simpa [List.lookup, hb] using e
      obtain ⟨v, e2, r⟩ := px_look t e'
      exact ⟨v, by simp [List.lookup, hb]; exact e2, r⟩
end
end DL
end
section
set_option Elab.async false
set_option linter.all false
set_option maxRecDepth 100000
set_option maxHeartbeats 4000000
namespace DL
open PySem PySem.Spec PySem.W L2 PyProof.Rows EX
variable [tB : Tb]
/-- the first def of a class -/
def clsFn : Stmt → Stmt
  | .ClassDef (body := b) .. => b.getD 0 (.Pass ⟨0, 0, 0, 0⟩)
  | _ => .Pass ⟨0, 0, 0, 0⟩
section
variable {P : Program} {w : World} {K : PySem.W.Frag} {mg : Str → Option Value} {base : Heap}
/-- what is asked of the written part, of an error class with an own __init__ -/
structure XF (P : Program) (K : PySem.W.Frag) (mg : Str → Option Value) (x qual : Str) (sI : Stmt) (C fI cda cc : Addr) (fd : FuncData) : Prop where
  m : mg x = some (.ref C)
  T : OexC K C
  iC : findIn K (.ref C) "__init__" = some (some (.ref fI))
  tI : typeIn K (.ref fI) = some (.type "function")
  fdI : ∃ kV doc pm an ct, fd = ksFn "__init__" qual (defArgs sI) (defBody sI) (defScope sI) .none kV doc pm an (.ref cda) ct cc
  look : ∃ oc od osl, K.lookup fI = some ⟨oc, od, .func fd, osl⟩
  code : codeIn K (.ref cda) qual = true
  file : ∃ ccl cdd ccs vs fl tf, K.lookup cda = some ⟨ccl, cdd, .fields vs, ccs⟩ ∧ vs[2]? = some (.str fl tf) ∧ ((P.main.file : Str) == fl) = true
  cell : ∃ cl cld csl, K.lookup cc = some ⟨cl, cld, .cell (some (.ref C)), csl⟩
  sup : nsIn K mainGlobals "super" = some none
  opq : nsIn K cStatics "thirdparty.any" = some none
  mth : ks_superIn K C C "__init__" = some (some (.builtin "ValueError.__init__"))
  sVE : subIn K (.ref C) (.type "ValueError") = some true
  sCC : mroIn K C (.ref C) = some true
theorem xcl1 {x qual txt f : Str} {sI : Stmt} {C fI cda cc : Addr} {fd : FuncData} {nms : List (Str × NameKind)} {p0 p1 p2 p3 p4 p5 q1 q2 q3 q4 : Pos} {j : Nat} {pl : Sem Bool} (X : XF P K mg x qual sI C fI cda cc fd) (no : findIn K (.ref C) f = some none)
    (top : (P.main.scope.names.lookup ("super" : Str)).isSome = false)
    (hb : defBody sI = bodyI p0 p1 p2 p3 p4 p5 j txt [.Assign [.Attribute (.Name "self" q1) f q2] (.Name f q3) q4]) (hs : defScope sI = scF nms)
    (kSup : nms.lookup ("super" : Str) = some .globalImplicit) (kCls : nms.lookup ("__class__" : Str) = some .free) (kSelf : nms.lookup ("self" : Str) = some .local)
    (fst : ∃ ar, ((defArgs sI).posonlyargs ++ (defArgs sI).args).head? = some ar ∧ ar.arg = "self") (noCell : ∀ y ∈ nms, y.2 ≠ .cell) (kf : nms.lookup f = some .local) (nf : f ≠ "self") (nd : (f == ("__debug__" : Str)) = false)
    (ev : ∀ L, eval (.Call (.Attribute (.Call (.Name "super" p0) [] [] p1) "__init__" p2) [.Constant (.str txt) j p3] [] p4) (ksEnv qual (scF nms) L fI (.ref cda) cc) = (do
      let ov ← attributeBase (.Call (.Name "super" p0) [] [] p1) "__init__" (ksEnv qual (scF nms) L fI (.ref cda) cc) (eval (.Call (.Name "super" p0) [] [] p1) (ksEnv qual (scF nms) L fI (.ref cda) cc))
      standAt p2.atName
      let (f, first) ← holding [ov] (getMethod ov "__init__" pl)
      callWith p4 f first (backTo p4 (starEach [.Constant (.str txt) j p3] (ksEnv qual (scF nms) L fI (.ref cda) cc))) []))
    (sw : ∀ L, swapsWith (.Name f q3) (some (.Attribute (.Name "self" q1) f q2)) q4.line (ksEnv qual (scF nms) L fI (.ref cda) cc) = pure false)
    (bd : ∀ (kV doc pm : Value) (an : Option Addr) (ct : Value) (us : List Value), us.length = 2 → bindArgs (ksFn "__init__" qual (defArgs sI) (defBody sI) (defScope sI) .none kV doc pm an (.ref cda) ct cc) ⟨us, []⟩ = pure ((["self", f] : List Str).zip us)) : XCl P w K mg base x [f] := by
  obtain ⟨m, T, iC, tI, ⟨kV, doc, pm, an, ct, rfl⟩, look, code, file, cell, sup, opq, mth, sVE, sCC⟩ := X
  refine ⟨C, fI, _, m, T, iC, tI, init1 (k := 0) (txt := txt) (ags := defArgs sI) (nms := nms) ⟨T, ⟨.none, kV, doc, pm, an, ct, by rw [hb, hs]⟩, look, code, file, cell, sup, top, opq, mth, sVE, sCC, kSup, kCls, kSelf, fst, noCell⟩ kf nf nd no ev sw, .all fun us hl => bd kV doc pm an ct us hl⟩
/-- the error classes of a text -/
structure ErrC (K : PySem.W.Frag) (mg : Str → Option Value) (flds : List Str) (x : Str) (C : Addr) : Prop where
  m : mg x = some (.ref C)
  ei : ExI K C
  nof : ∀ f ∈ flds, findIn K (.ref C) f = some none
structure Errs (K : PySem.W.Frag) (mg : Str → Option Value) (flds : List Str) (base' : Str) (L : List (Str × Addr)) : Prop where
  cls : ∀ p ∈ L, ErrC K mg flds p.1 p.2
  sub : ∀ p ∈ L, ∀ q ∈ L, subIn K (.ref p.2) (.ref q.2) = some (p.1 == q.1)
  bs : ∃ Cn, mg base' = some (.ref Cn) ∧ ExI K Cn ∧ ∀ p ∈ L, subIn K (.ref p.2) (.ref Cn) = some true
  glob : ExG K
variable {flds : List Str} {base' : Str} {L : List (Str × Addr)}
theorem Errs.one (E : Errs K mg flds base' L) {x : Str} {C : Addr} (hx : x ∈ L.map (·.1)) (hm : mg x = some (.ref C)) : (x, C) ∈ L := by
  obtain ⟨p, hp, rfl⟩ := List.mem_map.mp hx
  have z := (E.cls p hp).m
  rw [hm] at z
  cases z
  exact hp
theorem Errs.ei (E : Errs K mg flds base' L) {x : Str} {C : Addr} (hx : x ∈ L.map (·.1)) (hm : mg x = some (.ref C)) : ExI K C := (E.cls _ (E.one hx hm)).ei
theorem Errs.kit (E : Errs K mg flds base' L) {x y : Str} {C D : Addr} (hx : x ∈ L.map (·.1)) (hy : y ∈ L.map (·.1)) (hm : mg x = some (.ref C)) (hn : mg y = some (.ref D)) : kitOne K (.ref C) (.ref D) = some (x == y) := by
  have p := E.one hx hm
  have q := E.one hy hn
  refine kit_ref (E.cls _ q).ei (E.sub _ p _ q) fun e => ?_
  subst e
  have z1 := E.sub _ p _ p
  have z2 := E.sub _ p _ q
  rw [z1] at z2
  have z3 := Option.some.inj z2
  dsimp only at z3
  rw [← z3]
  simp
/-- THE RULE of a def, its frame standing first -/
theorem fn_okT {N : List Str} {k : Nat} {x qual : Str} {s : Stmt} {f : Addr} {fd : FuncData} {ps : List Str} {sp : SpD} {t : TDs} (Fu : Fun K x qual s f fd) (S : FnScope N ps (defScope s)) (len : ∀ xs st Q, sp xs st Q → xs.length = ps.length)
    (hbody : ∀ [Gr] X, Cok P w K mg base X N (defScope s) (defScope s) k → Stands X → DSs X (defBody s) t)
    (hsem : ∀ xs st Q, sp xs st Q → t { nx := fun _ st' => Fg Q (.d .none) st', rt := Fg Q } (startD N.length xs) st) : FnOk P w K mg base CX0 (k + 1) f fd ps (hsp K sp) := by
  refine Fu.ok S (fun vs H Q E ⟨F, st, xs, Qd, R, r, h, kk⟩ => r.length.trans (len xs st Qd h)) (fun cdv A outer s' H vs Q E hr ⟨F, st, xs, Qd, R, r, h, kk⟩ => ?_)
  have c : Cok P w K mg base (cxOf CX0 P w K mg base N qual (defScope s) f cdv A outer s' H E).nox N (defScope s) (defScope s) k :=
    ⟨rfl, rfl, rfl, rfl, rfl, rfl, S.nd, S.kind, rfl, rfl, fun _ _ => rfl, hr, fun _ _ h => h.elim⟩
  obtain ⟨ts, p, a⟩ := hbody _ c ⟨rfl, rfl⟩
  have fin : ∀ F' v H' x' st', Step F H st F' H' st' → Rs K F' H' st' → RV K F' v x' → Fg Qd x' st' → Q v H' := fun F' v H' x' st' t R' r' ⟨st2, le, q⟩ =>
    kk F' v H' x' st2 (t.less le) (R'.toRs0.le le).tr r' q
  exact ⟨ts, p, a F _ H (startD N.length xs) st _ _ R.tr (start_re r N) (hsem xs st Qd h) ⟨fun F' σ' H' ε' st' t R' E' q => fin F' .non H' (.d .none) st' t R' (.d .non) q, fin, fun _ _ _ _ _ _ _ _ z => z.elim, fun _ _ _ _ _ _ _ _ z => z.elim⟩⟩
end
end DL
namespace DL
open PySem PySem.Spec PySem.W L2 PyProof.Rows EX
variable [tB : Tb]
theorem Errs.nof {K : PySem.W.Frag} {mg : Str → Option Value} {flds : List Str} {base' : Str} {L : List (Str × Addr)} (E : Errs K mg flds base' L) {x f : Str} {C : Addr} (hx : x ∈ L.map (·.1)) (hf : f ∈ flds) (hm : mg x = some (.ref C)) : findIn K (.ref C) f = some none := (E.cls _ (E.one hx hm)).nof f hf
end DL
end
section
set_option Elab.async false
set_option linter.all false
set_option maxRecDepth 100000
set_option maxHeartbeats 4000000
namespace DL
open PySem PySem.Spec L2 PyProof.Rows EX
abbrev Lm (nm : Str) : Str := nm ++ "<lambda>"
section
variable {X : Cx} {pins : List (Addr × Obj)} {σ : L2.St} {H : Hp} {s : Shared}
/-- the callee's context, at some place of its body -/
abbrev zCx (X : Cx) (s : Shared) (H : Hp) (Ng : List Str) (x : Str) (sg : Scope) (g : Addr) (cdg : Value) (pn : List (Addr × Obj)) (xe : Value → Shared → Prop) : Cx :=
  (cxOf CX0 X.prog X.w X.K X.mg X.base Ng x sg g cdg X.A X.stack s H E0).tr pn xe
theorem pe_actS {Ng : List Str} {x : Str} {sg : Scope} {g f lc : Addr} {cdg pm ctv : Value} {params : Arguments} {body : Expr} {scope : Scope} {k : Nat} {a : Str} {pn : List (Addr × Obj)} {xe : Value → Shared → Prop} {tb : XK → TE} {p1 p2 : Pos}
    (I : Inv X pins σ H s) (L : LamX.LamS X.env.scope scope)
    (hf : s.heap.get? f = some (PySem.W.kla_obj "<lambda>" (Lm X.env.qual) params body scope (cloFrom X.env.cells scope.names []) pm lc ctv)) (hfn : H f = none) (hfr : f ∉ frs X.stack)
    (hbind : ∀ (cv : Value), bindArgs (PySem.W.kla_fn "<lambda>" (Lm X.env.qual) params body scope (cloFrom X.env.cells scope.names []) pm cv ctv) ⟨[], []⟩ = pure [])
    (hr : Room (k + 1) (X.A.deeper (envOfC x sg s.heap.objs.size g cdg)))
    (hbody : ∀ (A : Around) (outer : List PySem.Env) (s : Shared) (H : Hp) (E : XK), Room k (A.deeper (LamX.lamEnv X scope s.heap.objs.size f lc)) → PE (LamX.lamCx X A outer s H E scope f lc) body (tb E))
    (hN : Ng[0]? = some a) (hv : Vis sg a) (hd : (a == ("__debug__" : Str)) = false) (hcd : (a == ("__classdict__" : Str)) = false) :
    PE (zCx X s H Ng x sg g cdg pn xe) (.Call (.Name a p1) [] [] p2)
      (fun τ G Q => ∃ E : XK, PassesAt (L2.CX X.prog X.w) (zCx X s H Ng x sg g cdg pn xe) τ E ∧ τ[0]? = some (some (.ref f)) ∧ G lc = some (LamX.CodeO lc (Lm X.env.qual)) ∧ tb E σ G Q) := by
  refine ⟨fun pz sz τ G Q Iz ⟨E, hx, h0, h1, h2⟩ => ?_⟩
  have look := (pe_var (pos := p1) (i := 0) hN hv hd hcd).run pz sz τ G (fun v G1 => v = .ref f ∧ G1 = G) Iz ⟨.ref f, h0, rfl, rfl⟩
  refine wpAny_Call_Name_kw (thn look fun u s1 ⟨v, G1, I1, r1, ev, eG⟩ => ?_)
  subst ev eG
  obtain rfl : u = Value.ref f := r1
  have fo := I1.base.keep f _ hf hfn hfr (fun z => nomatch (show f ∈ ([] : List Addr) from z))
  refine PySem.W.callWith_F0 ⟨_, _, _, _, fo⟩ ?_
  obtain ⟨⟨oc, vs, t, c1, c2, c3⟩, _, _⟩ := I1.hok lc _ h1
  have run : codeAny (model X.prog X.w) (X.A.deeper (envOfC x sg s.heap.objs.size g cdg)) (.call (.ref f) ⟨[], []⟩)
      (CR (L2.CX X.prog X.w) (envOfC x sg s.heap.objs.size g cdg :: X.stack) X.prog X.w G1 s1 Q E) s1 := by
    refine PySem.W.kla_callFunE hr.depth fo rfl L.co L.gen rfl ⟨lc, oc, vs, t, rfl, c1, c2, c3⟩ ?_
    rw [hbind]
    refine wpAny_pure (wpAny_newFunctionEnv (fun y hy => (L.own y hy).2) (fun y hy => absurd hy (by simp)) (fun h₁ hns hsb => ⟨I1.nolimit.fresh _ hsb, ?_⟩) L.kind)
    show codeAny _ _ (.expr body (LamX.lamEnv X scope s1.heap.objs.size f lc)) _ _
    have J := LamX.lam_start2 (E := E) (c' := lc) (f := f) (tk := s1.toks + ([] : List (Str × Value)).length) I L I1.env0 hr.hd I1.base hns
      fun b o e => hsb.extBut b o (Nat.ne_of_lt (Heap.lt_size e)) (Heap.get?_push_of_some _ e)
    refine PySem.W.kla_codeExpr (wpAny_mono ((hbody _ _ s1 G1 E (hr.deeper _)).run [] _ _ G1 Q J h2) (fun v s' ⟨w', H', J', rv, q⟩ => ?_) fun e s' hq => hq)
    exact ⟨w', H', J'.os, J'.bare, J'.base, J'.hok, rv, q⟩
  refine wpAny_call (codeAny_mono run fun r s' hq => ?_)
  match r, hq with
  | .error e, hq => exact hx pz G1 s1 e s' I1 hq
  | .ok (.ret u), hq => exact I1.after hq
  | .ok .next, hq => exact hq.elim
  | .ok .brk, hq => exact hq.elim
  | .ok .cont, hq => exact hq.elim
/-- the lambda is made: of all that is known only the table at P grows -/
theorem lam_mk {cc P : Addr} {params : Arguments} {body : Expr} {scope : Scope} {pos : Pos} {E Q : Value → Shared → Prop} (I : Inv X pins σ H s) (B : LamX.TabB X.base X.mg cc P) (hc : X.env.code = .ref cc) (t : LamX.TabS H P (Lm X.env.qual))
    (hd : defaultsOf params X.env = ([], [])) (hfr : ∀ y ∈ scope.names, y.2 = .free → ∃ c, X.env.cells.lookup y.1 = some c)
    (k : ∀ (f lc : Addr) (pm ctv : Value) (G : Hp) (z : Shared), Inv X pins σ G z → (∀ b o, b ≠ P → H b = some o → G b = some o) → (∀ b o, b ≠ P → G b = some o → H b = some o ∨ (H b = none ∧ o = LamX.CodeO b (Lm X.env.qual))) → LamX.TabS G P (Lm X.env.qual) →
      z.heap.get? f = some (PySem.W.kla_obj "<lambda>" (Lm X.env.qual) params body scope (cloFrom X.env.cells scope.names []) pm lc ctv) → G f = none → f ∉ frs X.stack → G lc = some (LamX.CodeO lc (Lm X.env.qual)) → Q (.ref f) z) :
    wpAny (model X.prog X.w) X.A (eval (.Lambda params body scope pos) X.env) Q E s := by
  obtain ⟨ps, p1, p2, p3⟩ := id t
  have hp : s.heap.get? P = some { cls := .none, data := .fields ps } := I.hok P _ p1
  have fresh : ∀ f, s.heap.objs.size ≤ f → f ∉ frs X.stack := fun f le m => by
    rcases List.mem_cons.mp (I.stkSub _ m) with e | e
    · exact Nat.lt_irrefl _ (Nat.lt_of_lt_of_le (e ▸ I.lt) le)
    · exact I.nofs le e
  refine PySem.W.kla_eval hd ?_
  cases e : codeAmong pos ps.toList with
  | some cv =>
    obtain ⟨lc, rfl, hl⟩ := p3 pos cv e
    refine PySem.W.kla_makeFunctionHit (c := cc) (closure_ok hfr) I.ok.glob (I.mod.glob.keeps I.bk) hc (B.code.keeps I.bk) hp p2 e (B.bm.keeps I.bk) fun ctv h' tk st sz => ?_
    exact k _ lc _ ctv H _ (I.kept (t' := tk) fun b o q => Heap.get?_push_of_some _ (st b o q)) (fun _ _ _ q => q) (fun _ _ _ q => .inl q) t (Heap.get?_push_size _ rfl) (I.hok.fresh sz) (fresh _ sz) hl
  | none =>
    refine PySem.W.kla_makeFunction (c := cc) (closure_ok hfr) I.ok.glob (I.mod.glob.keeps I.bk) hc (B.code.keeps I.bk) hp p2 e B.gP (B.bm.keeps I.bk) fun lc ctv h' tk st ge lt rec tab => ?_
    obtain ⟨l2, oc, vs, u, el, r1, r2, r3⟩ := rec
    cases el
    have new : H lc = none := I.hok.fresh ge
    have np : P ≠ lc := ne_of_none p1 new
    have up_ : ∀ {b : Addr} {o : Obj}, h'.get? b = some o → ∀ f0 : Obj, (h'.push f0).get? b = some o := fun q f0 => Heap.get?_push_of_some _ q
    have J := LamX.inv_table (q := Lm X.env.qual) (t' := tk) (more := #[rawInt pos.line, rawInt pos.col, .ref lc]) I p1 (fun b o nb q => up_ (st b o nb q) _) (up_ tab (PySem.W.kla_obj "<lambda>" (Lm X.env.qual) params body scope (cloFrom X.env.cells scope.names []) ((X.mg "__name__").getD .none) lc ctv)) ge ⟨oc, vs, u, up_ r1 _, r2, r3⟩
    have sz : s.heap.objs.size ≤ h'.objs.size := Nat.le_trans ge (Nat.le_of_lt lt)
    have keep : ∀ b o, b ≠ P → H b = some o → upd (upd H P (.tbl (ps ++ #[rawInt pos.line, rawInt pos.col, .ref lc]))) lc (LamX.CodeO lc (Lm X.env.qual)) b = some o := fun b o nb q => by rw [upd_ne (ne_of_none q new), upd_ne nb]; exact q
    refine k h'.objs.size lc _ ctv _ _ J keep (fun b o nb q => ?_) ⟨_, by rw [upd_ne np, upd_same], ?_, fun p' cv q => ?_⟩ (Heap.get?_push_size _ rfl) ?_ (fresh _ sz) upd_same
    · by_cases z : b = lc
      · subst z
        rw [upd_same] at q
        exact .inr ⟨new, (Option.some.inj q).symm⟩
      · rw [upd_ne z, upd_ne nb] at q
        exact .inl q
    · rw [show (ps ++ #[rawInt pos.line, rawInt pos.col, Value.ref lc]).toList = ps.toList ++ [rawInt pos.line, rawInt pos.col, Value.ref lc] by simp]
      exact PySem.TriplesOk_snoc _ _ _ _ p2
    · have q' : codeAmong p' (ps.toList ++ [rawInt pos.line, rawInt pos.col, .ref lc]) = some cv := by simpa using q
      rcases LamX.among_app _ p2 q' with z | z
      · obtain ⟨c0, z1, z2⟩ := p3 p' cv z
        refine ⟨c0, z1, keep c0 _ (fun w => ?_) z2⟩
        rw [w, p1] at z2
        exact LamX.codeO_ne _ (Option.some.inj z2).symm
      · exact ⟨lc, z, upd_same⟩
    · rw [upd_ne (Nat.ne_of_gt lt), upd_ne (Nat.ne_of_gt (Nat.lt_of_lt_of_le (Heap.lt_size hp) sz))]
      exact I.hok.fresh sz
end
end DL
end
section
set_option Elab.async false
set_option linter.all false
set_option maxRecDepth 100000
set_option maxHeartbeats 4000000
namespace DL
open PySem PySem.Spec L2 PyProof.Rows EX
variable [tB : Tb]
theorem mok_code {K : PySem.W.Frag} {F G : Hp} {c : Addr} {q : Str} {m : MO} (h : MOk K F G c m) (e : G c = some (LamX.CodeO c q)) : False := by
  unfold LamX.CodeO at e
  cases m with
  | lst _ => obtain ⟨_, h, _⟩ := h; rw [e] at h; cases h
  | dK _ => obtain ⟨_, h, _⟩ := h; rw [e] at h; cases h
  | dT _ => obtain ⟨_, h, _⟩ := h; rw [e] at h; cases h
  | ins _ _ => obtain ⟨_, _, h, _⟩ := h; rw [e] at h; cases h
  | lk _ _ _ => obtain ⟨h, _⟩ := h; rw [e] at h; cases h
  | xd _ => obtain ⟨_, h, _⟩ := h; rw [e] at h; cases h
/-- the table at P has grown -/
theorem Rs0.grown {K : PySem.W.Frag} {F H G : Hp} {st : Sto} {P : Addr} {q : Str} (R : Rs0 K F H st) (hT : (P, q) ∈ tB.T) (hu : ∀ p ∈ tB.T, p.1 = P → p.2 = q) (e1 : ∀ b o, b ≠ P → H b = some o → G b = some o) (T1 : LamX.TabS G P q) :
    Rs0 K F G st ∧ Step F H st F G st := by
  obtain ⟨f0, s0, ps, hP, _, _⟩ := R.tb _ hT
  have f0 : F P = none := f0
  have s0 : st P = none := s0
  have hP : H P = some (.tbl ps) := hP
  have ok : ∀ a m, st a = some m → MOk K F G a m := fun a m h => by
    obtain ⟨o, e⟩ := (R.ok a m h).some
    exact MOk.mono (fun _ _ z => z) ((e1 a o (fun z => by rw [z, s0] at h; cases h) e).trans e.symm) (R.ok a m h)
  refine ⟨⟨fun a o h => ⟨e1 a o (fun z => by rw [z, f0] at h; cases h) (R.sub a o h).1, (R.sub a o h).2⟩, ok, fun p hp => ?_⟩,
    fun _ _ h => h, fun a o h nt n => ⟨e1 a o (fun z => by rw [z, hP] at h; cases h; exact nt _ rfl) h, n⟩, fun a o h => .inl (by rw [h]; exact fun z => (nomatch z))⟩
  by_cases hz : p.1 = P
  · rw [hu p hp hz, hz]
    obtain ⟨qs, h1, h2, h3⟩ := T1
    refine ⟨f0, s0, qs, h1, h2, fun pos cv hc => ?_⟩
    obtain ⟨c, z1, z2⟩ := h3 pos cv hc
    refine ⟨c, z1, z2, ?_⟩
    cases e : st c with
    | none => rfl
    | some m => exact (mok_code (ok c m e) z2).elim
  · obtain ⟨g0, g1, qs, h1, h2, h3⟩ := R.tb p hp
    refine ⟨g0, g1, qs, e1 _ _ hz h1, h2, fun pos cv hc => ?_⟩
    obtain ⟨c, z1, z2, z3⟩ := h3 pos cv hc
    exact ⟨c, z1, e1 _ _ (fun z => by rw [z, hP] at z2; exact LamX.codeO_ne _ (Option.some.inj z2).symm) z2, z3⟩
/-- what a def's body is to be shown for, that calls what it got in its try: rt by the reading of that call -/
def ToldD (P : Program) (w : World) (K : PySem.W.Frag) (mg : Str → Option Value) (base : Heap) (Ng : List Str) (sg : Scope) (a : Str) (bg : List Stmt) (kt : Nat) (rt : (XWe → TD) → TDs) : Prop :=
  ∀ [G : Gr] (Xt : Cx) (tc : XWe → TD), Cok P w K mg base Xt Ng sg sg kt → Stands Xt →
    (∀ [G' : Gr] (W : XWe) (pn : List (Addr × Obj)) (xe : Value → Shared → Prop), (∀ F H st, G'.gr F H st → G.gr F H st) → Cok P w K mg base (Xt.tr pn xe) Ng sg sg kt → Lx K mg W (Xt.tr pn xe) → ∀ p1 p2, DE (Xt.tr pn xe) (.Call (.Name a p1) [] [] p2) (tc W)) → DSs Xt bg (rt tc)
/-- the def's reading, with that of the lambda's body in the maker's names -/
def qLam (n : Nat) (rt : (XWe → TD) → TDs) (tb : XWe → TD) : TD := fun ε st Q => ∀ f : Addr, rt (fun W ε1 st1 Q1 => ε1[0]? = some (some (.r f)) ∧ tb (fun x kvs _ s => W x kvs ε1 s) ε st1 Q1) { nx := fun _ st' => Fg Q (.d .none) st', rt := Fg Q } (startD n [.r f]) st
section
variable {P : Program} {w : World} {K : PySem.W.Frag} {mg : Str → Option Value} {base : Heap} {X : Cx} {N : List Str} {sc fs : Scope} {k : Nat}
theorem Cok.lam {scope : Scope} {A : Around} {outer : List PySem.Env} {s : Shared} {H : Hp} {E : XK} {f lc : Addr} {kb : Nat} (c : Cok P w K mg base X N sc fs k) (L : LamX.LamS sc scope) (hr : Room kb (A.deeper (LamX.lamEnv X scope s.heap.objs.size f lc))) :
    Cok P w K mg base (LamX.lamCx X A outer s H E scope f lc) N scope scope kb :=
  ⟨c.hP, c.hw, c.hK, c.hmg, c.hb, c.hN, c.nd, L.kind, rfl, rfl, fun x hx => absurd rfl (L.own _ (PySem.mem_of_lookup hx)).2, hr, passes_of rfl⟩
theorem de_lam [gR : Gr] {params : Arguments} {body : Expr} {scope : Scope} {lpos p pos : Pos} {x a q : Str} {g cc Pt : Addr} {fd : FuncData} {sg : Stmt} {Ng : List Str} {kb : Nat} {rt : (XWe → TD) → TDs} {tb : XWe → TD}
    (c : Cok P w K mg base X N sc fs k) (hcode : X.env.code = .ref cc) (hq : Lm X.env.qual = q) (B : LamX.TabB base mg cc Pt) (hT : (Pt, q) ∈ tB.T) (hu : ∀ p ∈ tB.T, p.1 = Pt → p.2 = q)
    (hg : glB sc x = true) (hm : mg x = some (.ref g)) (Fu : Fun K x x sg g fd) (Bd : Binds K fd [a] []) (Sg : FnScope Ng [a] (defScope sg)) (h0 : visB Ng (defScope sg) 0 a = true)
    (told : ToldD P w K mg base Ng (defScope sg) a (defBody sg) (kb + 1) rt) (hk : kb + 2 ≤ k) (L : LamX.LamS sc scope) (hdef : ∀ e : PySem.Env, defaultsOf params e = ([], []))
    (hbind : ∀ (q : Str) (cl : List (Str × Addr)) (pm cv ctv : Value), bindArgs (PySem.W.kla_fn "<lambda>" q params body scope cl pm cv ctv) ⟨[], []⟩ = pure [])
    (hb : ∀ [Gr] (W : XWe) X', Cok P w K mg base X' N scope scope kb → Lx K mg W X' → DE X' body (tb W)) :
    DE X (.Call (.Name x p) [.Lambda params body scope lpos] [] pos) (qLam Ng.length rt tb) := by
  obtain ⟨hX1, hX2, hX3, hX4, hX5, hX6, _⟩ := id c
  have gl := gl_of c hg
  have L' : LamX.LamS X.env.scope scope := by rw [c.hs]; exact L
  subst hq
  obtain ⟨oc, od, kV, doc, pm0, an, cdv, ct, osl, rfl, lk, hcd⟩ := Fu.ex
  unfold visB at h0
  simp only [Bool.and_eq_true, decide_eq_true_eq, Bool.not_eq_true'] at h0
  obtain ⟨⟨⟨hN0, hv0⟩, hd0⟩, hcd0⟩ := h0
  have hv : Vis (defScope sg) a := by
    split at hv0
    · exact .inl (by assumption)
    · exact .inr (.inl (by assumption))
    · exact .inr (.inr (by assumption))
    · cases hv0
  refine ⟨⟨fun σ H Q => ∃ F ε st Qd, Rs X.K F H st ∧ RE X.K F σ ε ∧ qLam Ng.length rt tb ε st Qd ∧ Kg (RV X.K) X.K F H st Qd Q, ⟨fun pins s σ H Q I ⟨F, ε, st, Qd, R, E0', h, kk⟩ => ?_⟩, fun F σ H ε st Qd Q R E h kk => ⟨F, ε, st, Qd, R, E, h, kk⟩⟩⟩
  refine wpAny_Call_Name_kw (ld_glob I gl.1 (by rw [hX4]; exact hm) ?_ gl.2.2)
  refine PySem.W.callWith_K (h₀ := X.base) I.ok.mod.kin (by rw [hX3]; exact Fu.kp) ?_ (by rfl) (by rfl)
  obtain ⟨_, _, hS⟩ := R.tb _ hT
  obtain ⟨ps0, t1, t2, t3⟩ := hS
  have TS : LamX.TabS H Pt (Lm X.env.qual) := ⟨ps0, t1, t2, fun pos cv hc => let ⟨c, z1, z2, _⟩ := t3 pos cv hc; ⟨c, z1, z2⟩⟩
  show wpAny _ _ (spliced ((false, eval (.Lambda params body scope lpos) X.env) :: backTo pos (starEach [] X.env))) _ _ s
  refine Calls.spliced_cons (lam_mk I (by rw [hX4, hX5]; exact B) hcode TS (hdef _) (L'.has I.ok) fun f lc pm ctv G z I1 e1 e2 T1 hf hfn hfr hlc => ?_)
  refine Calls.spliced_nil ⟨I1.kIn, ?_⟩
  obtain ⟨R1, s1⟩ := R.toRs0.grown hT hu e1 T1
  have slc : st lc = none := by
    cases e : st lc with
    | none => rfl
    | some m => exact (mok_code (R1.ok lc m e) hlc).elim
  have ntc : NoTb (LamX.CodeO lc (Lm X.env.qual)) := fun ps z => LamX.codeO_ne ps z
  have rc : codeAny (model X.prog X.w) X.A (.call (.ref g) ⟨[.ref f], []⟩) (CR CX0 X.stack X.prog X.w G z Q E0) z := by
    refine LamX.run_ofS (k := kb + 1) (N := Ng) (ps := [a]) (us := [.ref f]) (vs := [.ref f]) (by rw [hX3]; exact lk) (by rw [hX3]; exact hcd) Sg (c.room.mono hk) I1.env0 (Bd z [.ref f] (by rw [← hX3]; exact I1.kIn) rfl) (.cons rfl .nil) rfl fun hr' => ?_
    have ct : Cok P w K mg base (cxOf CX0 X.prog X.w X.K X.mg X.base Ng x (defScope sg) g cdv X.A X.stack z G E0).nox Ng (defScope sg) (defScope sg) (kb + 1) :=
      ⟨hX1, hX2, hX3, hX4, hX5, rfl, Sg.nd, Sg.kind, rfl, rfl, fun _ _ => rfl, hr', fun _ _ h => h.elim⟩
    -- the lambda's body, in whatever runs it
    let tbE : XK → TE := fun E σ H Q => ∃ F ε st Qd, ∃ Wc : XWc, Rs0 X.K F H st ∧ RE X.K F σ ε ∧ tb (fun x kvs _ s => Wc x kvs s) ε st Qd ∧ @Kg _ Gr.tr _ _ (RV X.K) X.K F H st Qd Q ∧ KX K mg F H st Wc E
    have hbody : ∀ (A : Around) (outer : List PySem.Env) (s : Shared) (H : Hp) (E : XK), Room kb (A.deeper (LamX.lamEnv X scope s.heap.objs.size f lc)) → PE (LamX.lamCx X A outer s H E scope f lc) body (tbE E) := by
      intro A outer s0 H0 E hr
      refine ⟨fun pins1 s2 σ2 H2 Q2 I2 ⟨F2, ε2, st2, Qd2, Wc, R2, RE2, h2, k2, kx⟩ => ?_⟩
      have tk : Takes (LamX.lamCx X A outer s0 H0 E scope f lc) (fun cls d _ H => E cls d H) := takes_of rfl rfl rfl rfl
      have lx : @Lx _ (Gr.ofX K mg Wc E) K mg (fun x kvs _ s => Wc x kvs s) (LamX.lamCx X A outer s0 H0 E scope f lc) :=
        @Lx.mk _ (Gr.ofX K mg Wc E) _ _ _ _ fun F1 H1 st1 σ ε gx _ => ⟨fun F' H' st' x C dd ws kvs t R0 hm hd pr fr sd fd q => wish_of tk (gx.k F' H' st' x C dd ws kvs t R0 hm hd pr fr sd fd q), fun F' H' st' x C t R0 hm hb q => wish_of tk (gx.z F' H' st' x C t R0 hm hb q)⟩
      obtain ⟨te, pp, aa⟩ := @hb (Gr.ofX K mg Wc E) (fun x kvs _ s => Wc x kvs s) _ (c.lam L hr) lx
      exact pp.run pins1 s2 σ2 H2 Q2 I2 (aa F2 σ2 H2 ε2 st2 Qd2 Q2 (@Rs.mk _ (Gr.ofX K mg Wc E) _ _ _ _ R2 kx) RE2 h2 (fun F' v H' b st' t R' r q => k2 F' v H' b st' t (@Rs.toRs0 _ (Gr.ofX K mg Wc E) _ _ _ _ R').tr r q))
    obtain ⟨ts, pt, at_⟩ := @told (Gr.from F G st) _ (fun W ε1 st1 Q1 => ε1[0]? = some (some (.r f)) ∧ tb (fun x kvs _ s => W x kvs ε1 s) ε st1 Q1) ct ⟨rfl, rfl⟩ (by
      intro G' W pn xe imp c2 lx p1 p2
      refine ⟨⟨fun τ Γ Q => ∃ F1 ε1 st1 Qd, Rs X.K F1 Γ st1 ∧ RE X.K F1 τ ε1 ∧ (ε1[0]? = some (some (.r f)) ∧ tb (fun x kvs _ s => W x kvs ε1 s) ε st1 Qd) ∧ Kg (RV X.K) X.K F1 Γ st1 Qd Q, ⟨fun pz sz τ Γ Q Iz ⟨F1, ε1, st1, Qd, Rz, REz, ⟨hf0, hz⟩, kz⟩ => ?_⟩, fun F1 τ Γ ε1 st1 Qd Q Rz REz hz kz => ⟨F1, ε1, st1, Qd, Rz, REz, hz, kz⟩⟩⟩
      have stp : Step F G st F1 Γ st1 := imp _ _ _ Rz.gr
      obtain ⟨v, hv1, hv2⟩ := REz.2 0 _ hf0
      cases hv2
      have act := pe_actS (p1 := p1) (p2 := p2) (pn := pn) (xe := xe) (tb := tbE) (x := x) (Ng := Ng) (sg := defScope sg) (g := g) (cdg := cdv) I1 L' hf hfn hfr (fun cv => hbind _ _ _ _ _) hr' hbody hN0 hv hd0 hcd0
      refine act.run pz sz τ Γ Q Iz ⟨_, passAt (takes_wish _) τ, hv1, (stp.pres lc _ hlc ntc slc).1, F1, ε, st1, Qd, fun x kvs s => W x kvs ε1 s, Rz.toRs0, E0'.mono stp.ex, hz, kz.tr Rz, ?_⟩
      exact lx.li F1 Γ st1 τ ε1 Rz.gr (by rw [← hX3]; exact REz))
    have fin : ∀ F' v H' x' st', Step F G st F' H' st' → Rs0 X.K F' H' st' → RV X.K F' v x' → Fg Qd x' st' → Q v H' := fun F' v H' x' st' t R' r' ⟨st2, le, q⟩ =>
      kk F' v H' x' st2 ((s1.trans t).less le) (R.by (R'.le le) ((s1.trans t).less le)) r' q
    refine ⟨ts, pt.nox, at_ F _ G (startD Ng.length [.r f]) st _ _ (@Rs.mk _ (Gr.from F G st) _ _ _ _ R1 (Step.refl _ _ _)) (start_re (.cons (.r f) .nil) Ng) (h f) (@KS.mk _ (Gr.from F G st) _ _ _ _ _ _ (fun F' σ' H' ε' st' t R' E' q => fin F' .non H' (.d .none) st' t (@Rs.toRs0 _ (Gr.from F G st) _ _ _ _ R') (.d .non) q)
      (fun F' v H' x' st' t R' r' q => fin F' v H' x' st' t (@Rs.toRs0 _ (Gr.from F G st) _ _ _ _ R') r' q) (fun _ _ _ _ _ _ _ _ z => z.elim) (fun _ _ _ _ _ _ _ _ z => z.elim))⟩
  refine wpAny_call (codeAny_mono rc fun r s2 hq => ?_)
  match r, hq with
  | .error e, hq => exact (show False from hq).elim
  | .ok (.ret u), hq => exact I1.after hq
  | .ok .next, hq => exact hq.elim
  | .ok .brk, hq => exact hq.elim
  | .ok .cont, hq => exact hq.elim
end
end DL
end
section
set_option Elab.async false
set_option linter.all false
set_option maxRecDepth 100000
set_option maxHeartbeats 4000000
namespace DL
open PySem PySem.Spec L2 PyProof.Rows EX
variable [tB : Tb]
section
variable {P : Program} {w : World} {K : PySem.W.Frag} {mg : Str → Option Value} {base : Heap}
/-- a def that calls what it got in its try, the text's -/
def ClT (P : Program) (w : World) (K : PySem.W.Frag) (mg : Str → Option Value) (base : Heap) (x : Str) (n : Nat) (rt : (XWe → TD) → TDs) : Prop :=
  ∃ (g : Addr) (fd : FuncData) (sg : Stmt) (Ng : List Str) (a : Str), mg x = some (.ref g) ∧ Fun K x x sg g fd ∧ Binds K fd [a] [] ∧ FnScope Ng [a] (defScope sg) ∧ visB Ng (defScope sg) 0 a = true ∧ Ng.length = n ∧ ∀ kt, ToldD P w K mg base Ng (defScope sg) a (defBody sg) kt rt
/-- a def in whose body lambdas are made -/
structure Mk (mg : Str → Option Value) (base : Heap) (X : Cx) (cc Pt : Addr) (q : Str) : Prop where
  code : X.env.code = .ref cc
  qual : Lm X.env.qual = q
  tab : LamX.TabB base mg cc Pt
  mem : (Pt, q) ∈ tB.T
  one : ∀ p ∈ tB.T, p.1 = Pt → p.2 = q
theorem de_lamC [gR : Gr] {X : Cx} {N : List Str} {sc fs : Scope} {k : Nat} {params : Arguments} {body : Expr} {scope : Scope} {lpos p pos : Pos} {x q : Str} {cc Pt : Addr} {n : Nat} {rt : (XWe → TD) → TDs} {tb : XWe → TD}
    (c : Cok P w K mg base X N sc fs k) (M : Mk mg base X cc Pt q) (hg : glB sc x = true) (C : ClT P w K mg base x n rt) (kb : Nat) (hk : kb + 2 ≤ k) (L : LamX.lamSB sc scope = true) (hdef : ∀ e : PySem.Env, defaultsOf params e = ([], []))
    (hbind : ∀ (q : Str) (cl : List (Str × Addr)) (pm cv ctv : Value), bindArgs (PySem.W.kla_fn "<lambda>" q params body scope cl pm cv ctv) ⟨[], []⟩ = pure [])
    (hb : ∀ [Gr] (W : XWe) X', Cok P w K mg base X' N scope scope kb → Lx K mg W X' → DE X' body (tb W)) :
    DE X (.Call (.Name x p) [.Lambda params body scope lpos] [] pos) (qLam n rt tb) := by
  obtain ⟨g, fd, sg, Ng, a, h1, h2, h3, h4, h5, rfl, h6⟩ := C
  exact de_lam c M.code M.qual M.tab M.mem M.one hg h1 h2 h3 h4 h5 (h6 _) hk (LamX.lamS_by L) hdef hbind hb
/-- as Fun, with the code object -/
structure FunM (K : PySem.W.Frag) (x qual : Str) (st : Stmt) (f cc : Addr) (fd : FuncData) : Prop where
  ex : ∃ (oc : Value) (od : Option Addr) (kV doc pm : Value) (an : Option Addr) (ct : Value) (osl : Array (Option Value)),
    fd = PySem.W.fnOf x qual (defArgs st) (defBody st) (defScope st) .none kV doc pm an (.ref cc) ct ∧ K.lookup f = some ⟨oc, od, .func fd, osl⟩ ∧ PySem.W.codeIn K (.ref cc) qual = true
theorem FunM.fn {x qual : Str} {st : Stmt} {f cc : Addr} {fd : FuncData} (F : FunM K x qual st f cc fd) (kp : PySem.W.keepIn K (.ref f) = true) : Fun K x qual st f fd := by
  obtain ⟨oc, od, kV, doc, pm, an, ct, osl, h1, h2, h3⟩ := F.ex
  exact ⟨⟨oc, od, kV, doc, pm, an, .ref cc, ct, osl, h1, h2, h3⟩, kp⟩
/-- the law's entry, one table known -/
theorem law_startT {sp : SpD} {n : Nat} {Pt : Addr} {q : Str} (hT : tB.T = [(Pt, q)]) (h : ∀ ns : List Int, ns.length ≤ n → sp [.d (.list (ns.map .int))] (fun _ => none) (fun x _ => x = .d (.bool true))) {H : Hp} {a : Addr} {ns : List Int} {E : XK} (hl : ns.length ≤ n) (hP : H Pt = some (.tbl #[])) (hS : SqL K H a (ns.map V.int)) :
    hsp K sp [.ref a] H (fun v _ => v = .bl true) E := by
  let F : Hp := fun b => match H b with | some (.tbl _) => none | o => o
  have hF : ∀ b o, H b = some o → plainB o = true → F b = some o := fun b o e p => by
    show (match H b with | some (.tbl _) => none | o => o) = _
    rw [e]
    cases o <;> first | rfl | cases p
  have hS' : SqL K F a (ns.map V.int) := by
    rcases hS with (z | ⟨o, z⟩) | z
    · exact .inl (.inl (hF _ _ z rfl))
    · exact .inl (.inr ⟨o, hF _ _ z rfl⟩)
    · exact .inr z
  refine ⟨F, fun _ => none, _, _, ⟨fun b o e => ⟨?_, rfl⟩, fun _ _ e => (nomatch e), fun p hp => ?_⟩, .cons (.d (.lst hS' (rp_all ns))) .nil, h ns hl, fun F v H' x st' _ _ r q => by subst q; exact rv_bool r⟩
  · have e' : (match H b with | some (.tbl _) => none | o => o) = some o := e
    split at e'
    · cases e'
    · exact e'
  · rw [hT] at hp
    rw [List.mem_singleton.mp hp]
    refine ⟨?_, rfl, #[], hP, True.intro, fun pos cv hc => ?_⟩
    · show (match H Pt with | some (.tbl _) => none | o => o) = none
      rw [hP]
    · have z : codeAmong pos [] = some cv := hc
      simp [codeAmong] at z
end
end DL
end
section
set_option Elab.async false
set_option linter.all false
set_option maxRecDepth 100000
namespace RD
open PySem L2 DL
/-- is_inside(face, other) slots: 0=face 1=other 2=vertex -/
def rd_is_inside : TDs :=
  (qSeq (qFor (qiSeq (qv 0)) (qgN 2) (qIfS (qTest (qOp (qIn true) (qv 2) (qv 1))) (qRet (qc (.d (.bool false)))) qNext))
  (qRet (qc (.d (.bool true)))))
/-- _law_faces(facets) slots: 0=facets 1=found 2=facet -/
def rd_law_faces (sp_law_subsets : SpD) : TDs :=
  (qSeq (qAsg (qLst false qNil) (qgN 1))
  (qSeq (qFor (qiSeq (qv 0)) (qgN 2) (qAsg (BS.qSortB false (qOp (qAdd false) (qv 1) (qCall sp_law_subsets (qCons (qCB (qListC false) (qCons (qv 2) qNil)) qNil)))) (qgN 1)))
  (qRet (qv 1))))
/-- _law_inside(face, other) slots: 0=face 1=other 2=one -/
def rd_law_inside : TDs :=
  (qRet (qOp qEq (qLc false (qiSeq (qv 0)) (qgN 2) (qTest (qOp (qIn true) (qv 2) (qv 1))) (qv 2) [2]) (qLst false qNil)))
/-- _law_facets(faces) slots: 0=faces 1=some 2=a 3=b -/
def rd_law_facets (sp_law_inside : SpD) : TDs :=
  (qSeq (qAsg (BS.qSortB false (qv 0)) (qgN 1))
  (qRet (qCB qTupleC (qCons (qLc false (qiSeq (qv 1)) (qgN 2) (qTest (qOp qEq (qLc false (qiSeq (qv 1)) (qgN 3) (qAndT (qTest (qOp qNe (qv 3) (qv 2))) (qTest (qCall sp_law_inside (qCons (qv 2) (qCons (qv 3) qNil))))) (qv 3) [3]) (qLst false qNil))) (qv 2) [2]) qNil))))
/-- _law_drawn_set(m, v, odds) slots: 0=m 1=v 2=odds 3=k -/
def rd_law_drawn_set (sp_law_draw : SpD) : TDs :=
  (qRet (qCB qTupleC (qCons (qLc false (qiRng1 (qCons (qv 1) qNil)) (qgN 3) (qTest (qOp qGt (qCall sp_law_draw (qCons (qv 0) (qCons (qv 2) qNil))) (qc (.d (.int 0))))) (qv 3) [3]) qNil)))
/-- _law_complex(m, v) slots: 0=m 1=v 2=pick 3=odds 4=k -/
def rd_law_complex (sp_law_draw : SpD) (sp_law_of : SpD) (sp_law_drawn_set : SpD) (sp_law_facets : SpD) : TDs :=
  (qSeq (qAsg (qCall sp_law_draw (qCons (qv 0) (qCons (qc (.d (.int 12))) qNil))) (qgN 2))
  (qSeq (qIfS (qTest (qOp qLt (qv 2) (qc (.d (.int 2))))) (qRet (qIf (qTest (qOp qEq (qv 2) (qc (.d (.int 0))))) (qTup (qCons (qTup qNil) qNil)) (qTup qNil))) qNext)
  (qSeq (qAsg (qCall sp_law_of (qCons (qv 0) (qCons (qLst false (qCons (qc (.d (.int 2))) (qCons (qc (.d (.int 2))) (qCons (qc (.d (.int 3))) (qCons (qc (.d (.int 4))) qNil))))) qNil))) (qgN 3))
  (qRet (qCall sp_law_facets (qCons (qLc false (qiRng1 (qCons (qOp (qAdd false) (qc (.d (.int 1))) (qCall sp_law_draw (qCons (qv 0) (qCons (qc (.d (.int 5))) qNil)))) qNil)) (qgN 4) qYes (qCall sp_law_drawn_set (qCons (qv 0) (qCons (qv 1) (qCons (qv 3) qNil)))) [4]) qNil))))))
/-- product_of_vertices(v, face) slots: 0=v 1=face 2=vertex -/
def rd_product_of_vertices : TDs :=
  (qRet (qCB qTupleC (qCons (qLc false (qiRng1 (qCons (qv 0) qNil)) (qgN 2) qYes (qIf (qTest (qOp (qIn false) (qv 2) (qv 1))) (qc (.d (.int 1))) (qc (.d (.int 0)))) [2]) qNil)))
/-- all_faces(facets) slots: 0=facets 1=found 2=facet 3=size 4=face -/
def rd_all_faces : TDs :=
  (qSeq (qAsg (qDNew true) (qgN 1))
  (qSeq (qFor (qiSeq (qv 0)) (qgN 2) (qFor (qiRng1 (qCons (qOp (qAdd false) (qCB qLen (qCons (qv 2) qNil)) (qc (.d (.int 1)))) qNil)) (qgN 3) (qFor (qiComb (qCons (qv 2) (qCons (qv 3) qNil))) (qgN 4) (qDPut (qv 1) (qv 4) (qc (.d (.bool true)))))))
  (qRet (qv 1))))
/-- borders(face) slots: 0=face 1=place -/
def rd_borders : TDs :=
  (qRet (qLc false (qiRng1 (qCons (qCB qLen (qCons (qv 0) qNil)) qNil)) (qgN 1) qYes (qOp (qAdd false) (qSl false (qv 0) qNoPart (qPart (qv 1))) (qSl false (qv 0) (qPart (qOp (qAdd false) (qv 1) (qc (.d (.int 1))))) qNoPart)) [1]))
/-- least_lacking(v, facets) slots: 0=v 1=facets 2=faces 3=found 4=size 5=face 6=border -/
def rd_least_lacking (sp_all_faces : SpD) (sp_borders : SpD) : TDs :=
  (qSeq (qAsg (qTup (qCons (qCall sp_all_faces (qCons (qv 1) qNil)) (qCons (qLst true qNil) qNil))) (qgT 2 (qgCons (qgN 2) (qgCons (qgN 3) qgNil))))
  (qSeq (qFor (qiRng1 (qCons (qOp (qAdd false) (qv 0) (qc (.d (.int 1)))) qNil)) (qgN 4) (qFor (qiCombR (qv 0) (qv 4)) (qgN 5) (qIfS (qAndT (qTest (qOp (qDIn true) (qv 5) (qv 2))) (qTest (qCB qAll (qCons (qLc false (qiSeq (qCall sp_borders (qCons (qv 5) qNil))) (qgN 6) qYes (qOp (qDIn false) (qv 6) (qv 2)) [6]) qNil)))) (qDrop (qAppend (qv 3) (qv 5))) qNext)))
  (qRet (qv 3))))
/-- made(n, monomials) slots: 0=n 1=monomials 2=found 3=monomial -/
def rd_made_x (W : XWe) (sp_least_ones : SpD) : TDs :=
  (qSeq (qAsg (qCall sp_least_ones (qCons (qv 1) qNil)) (qgN 2))
  (qSeq (qIfS (qTest (qOp qGt (qCB qLen (qCons (qv 2) qNil)) (qc (.d (.int 60))))) (qRaise W "TooMany" ["limit"] (qCons (qc (.d (.int 60))) qNil)) qNext)
  (qSeq (qFor (qiSeq (qv 2)) (qgN 3) (qIfS (qTest (qOp qGt (qCB qMax1 (qCons (qv 3) qNil)) (qc (.d (.int 60))))) (qRaise W "TooGreat" ["limit"] (qCons (qc (.d (.int 60))) qNil)) qNext))
  (qRet (qTup (qCons (qv 0) (qCons (qCB qTupleC (qCons (qv 2) qNil)) qNil)))))))
end RD
end
section
set_option Elab.async false
set_option linter.all false
set_option maxRecDepth 100000
set_option maxHeartbeats 1000000
open PySem L2 DL RD UC
local macro_rules | `(tactic| walk_at "E") => `(tactic| (try simp only [qAsg, qRet, qDrop, qIfS, qTest, qAndT, qOrT, qNotT, qAndV, qOrV, qNotV, qIf, qOp, qUn, qChain, onB, qv, qc, qgN, qgT, qgCons, qgNil, qCons, qNil, qTup, qLst, qPar, qPar3, qAug, qCB, qCall, qLen, qTupleC, qListC, qMax2, qMin2, qIntC, qSum, qAny, qAll, qIsi, tyName, qAdd, qSub, qMul, qFdiv, qMod, qPow, qI2, qCmpI, qEq, qNe, qLt, qLe, qGt, qGe, qNeg, qIx, qDGet, qDIn, qDPut, qSl, qPart, qNoPart, qNext, qFor, qiSeq, qiRng1, qiRng2, qiZip, qiEnum, qLc, seqSrc, lsrc, titems, litems, sitems, fz, newL, List.getElem?_cons_zero, List.getElem?_cons_succ, List.set_cons_zero, List.set_cons_succ, if_true, if_false, Bool.false_eq_true, ite_true, ite_false, up_same, reduceIte, decide_true, decide_false, true_and, and_true]))
local macro_rules | `(tactic| walk_at "D") => `(tactic| (try simp only [qAsg, qRet, qDrop, qIfS, qTest, qAndT, qOrT, qNotT, qAndV, qOrV, qNotV, qIf, qOp, qUn, qChain, onB, qv, qc, qgN, qgT, qgCons, qgNil, qCons, qNil, qTup, qLst, qPar, qPar3, qAug, qCB, qCall, qLen, qTupleC, qListC, qMax2, qMin2, qIntC, qSum, qAny, qAll, qIsi, tyName, qAdd, qSub, qMul, qFdiv, qMod, qPow, qI2, qCmpI, qEq, qNe, qLt, qLe, qGt, qGe, qNeg, qIx, qDGet, qDIn, qDPut, qSl, qPart, qNoPart, qNext, qFor, qiSeq, qiRng1, qiRng2, qiZip, qiEnum, qLc, seqSrc, lsrc, titems, litems, sitems, fz, newL, List.getElem?_cons_zero, List.getElem?_cons_succ, List.set_cons_zero, List.set_cons_succ, if_true, if_false, Bool.false_eq_true, ite_true, ite_false, up_same, reduceIte, decide_true, decide_false, true_and, and_true, eqv_int, eqv_bool, eqv_TI, eqv_LI, eqv_TT, eqv_LT, eqv_nilL, eqv_nilT, shaped_TI, shaped_LI, shaped_TT, shaped_LT, shaped_int, shaped_bool, shaped_nilL, shaped_nilT, dints_map2, dbools_map2, datas_map, mkT_map, mkT_0, mkT_1, mkT_2, mkT_3, List.length_map, List.length_cons, List.length_nil, List.length_append, List.map_cons, List.map_nil, wipeD, Bool.not_true, Bool.not_false, eq_self, not_true_eq_false, not_false_eq_true, kitB_tt, kitB_ll, kitB_dd, kitB_bb, kitB_ib, kitB_ii, kitB_ss, kitB_tl, kitB_lt, Function.comp, datas, Option.map_some, List.cons_append, List.nil_append, CPow, le_size4, Int.toNat_natCast, rngD0, I_eq, Bo_eq, BS.qSortB, in_IT, in_IL, in_TT, in_TL, qNotN, qIsN, qSortD, qListRg, qDispT, keyX_TI, qGet, qiItems, qLockE, qLockS, qPop, qMaxDf, qLPut, qDNew, qListItems, qListDK, qLc2, qMax1, qMin1, qAppend, qExtend, tints_TI, dv_TI, Option.bind_some, qRetN, atI_0, atI_1, atI_2, mk_appT, mk_snocI, idl, rep_I, Option.map_none, eqv_idl, shaped_idl, Bool.and_self, Bool.true_and, Bool.and_true]))
local macro_rules | `(tactic| walk_at "F") => `(tactic| (try simp only [qAsg, qRet, qDrop, qIfS, qTest, qAndT, qOrT, qNotT, qAndV, qOrV, qNotV, qIf, qOp, qUn, qChain, onB, qv, qc, qgN, qgT, qgCons, qgNil, qCons, qNil, qTup, qLst, qPar, qPar3, qAug, qCB, qCall, qLen, qTupleC, qListC, qMax2, qMin2, qIntC, qSum, qAny, qAll, qIsi, tyName, qAdd, qSub, qMul, qFdiv, qMod, qPow, qI2, qCmpI, qEq, qNe, qLt, qLe, qGt, qGe, qNeg, qIx, qDGet, qDIn, qDPut, qSl, qPart, qNoPart, qNext, qFor, qiRng1, qiRng2, qiZip, qiEnum, qLc, fz, newL, List.getElem?_cons_zero, List.getElem?_cons_succ, List.set_cons_zero, List.set_cons_succ, if_true, if_false, Bool.false_eq_true, ite_true, ite_false, up_same, reduceIte, decide_true, decide_false, true_and, and_true, eqv_int, eqv_bool, eqv_TI, eqv_LI, eqv_TT, eqv_LT, eqv_nilL, eqv_nilT, shaped_TI, shaped_LI, shaped_TT, shaped_LT, shaped_int, shaped_bool, shaped_nilL, shaped_nilT, dints_map2, dbools_map2, datas_map, mkT_map, mkT_0, mkT_1, mkT_2, mkT_3, List.length_map, List.length_cons, List.length_nil, List.length_append, List.map_cons, List.map_nil, wipeD, Bool.not_true, Bool.not_false, eq_self, not_true_eq_false, not_false_eq_true, kitB_tt, kitB_ll, kitB_dd, kitB_bb, kitB_ib, kitB_ii, kitB_ss, kitB_tl, kitB_lt, Function.comp, datas, Option.map_some, List.cons_append, List.nil_append, CPow, le_size4, Int.toNat_natCast, rngD0, I_eq, Bo_eq, BS.qSortB, in_IT, in_IL, in_TT, in_TL, qNotN, qIsN, qSortD, qListRg, qDispT, keyX_TI, qGet, qiItems, qLockE, qLockS, qPop, qMaxDf, qLPut, qDNew, qListItems, qListDK, qLc2, qMax1, qMin1, qAppend, qExtend, tints_TI, dv_TI, Option.bind_some, qRetN, atI_0, atI_1, atI_2, mk_appT, mk_snocI, idl, rep_I, Option.map_none, eqv_idl, shaped_idl, Bool.and_self, Bool.true_and, Bool.and_true]))
namespace UC
open PySem L2 DL RD
theorem alikeC (L : List (List Int)) : PySem.W.AllAlike (L.map TI) := PySem.W.AllAlike.of fun a b => BS.alike_ints2 a b
theorem sortXC (L : List (List Int)) : BS.SortX (L.map TI) := .inr fun d hd => by
  obtain ⟨t, ht, rfl⟩ := List.mem_map.mp hd
  exact ⟨_, rfl⟩
theorem depthC {L : List (List Int)} : ∀ d ∈ L.map TI, d.depth ≤ 16 := fun d hd => by
  obtain ⟨t, ht, rfl⟩ := List.mem_map.mp hd
  have : (TI t).depth ≤ 1 := (sh_TI (n := 0)).2
  omega
theorem sortC {L : List (List Int)} (h : L.Nodup) : (L.map TI).mergeSort leD = (sortU L).map TI := by
  have tr : ∀ x y z : List Int, (!lexL y x) = true → (!lexL z y) = true → (!lexL z x) = true := fun x y z h1 h2 => by
    have a := BS.le_tr (0, x) (0, y) (0, z)
    simp only [BS.le_lexL] at a
    exact a h1 h2
  have tot : ∀ x y : List Int, ((!lexL y x) || !lexL x y) = true := fun x y => by
    have a := BS.le_tot (0, x) (0, y)
    simp only [BS.le_lexL] at a
    exact a
  have e0 : (L.map TI).mergeSort leD = (L.mergeSort fun a b => !lexL b a).map TI :=
    (List.map_mergeSort (f := TI) (s := leD) fun a _ b _ => (show leD (TI a) (TI b) = !lexL b a from by
      show (!PySem.W.dataLt (TI b) (TI a)) = _
      rw [BS.data_lexL]).symm).symm
  rw [e0]
  congr 1
  refine ris_eq ?_ (ris_sortU L) fun x => ?_
  · have nd : (L.mergeSort fun a b => !lexL b a).Nodup := (List.mergeSort_perm _ _).nodup_iff.mpr h
    have pw := List.pairwise_mergeSort tr tot L
    refine List.Pairwise.imp (fun {a b} hab => ?_) (List.Pairwise.and nd pw)
    rcases lexL_tri a b with e | e | e
    · exact e
    · exact absurd e hab.1
    · rw [e] at hab; exact absurd hab.2 (by decide)
  · rw [mem_sortU, (List.mergeSort_perm _ _).mem_iff]
theorem len_sortC (l : List (List Int)) : (sortU l).length ≤ l.length := by
  induction l with
  | nil => exact Nat.le_refl _
  | cons a l ih =>
    show (insU a (sortU l)).length ≤ l.length + 1
    have : ∀ m : List (List Int), (insU a m).length ≤ m.length + 1 := by
      intro m
      induction m with
      | nil => exact Nat.le_refl _
      | cons b m ihm =>
        unfold insU
        split
        · simp only [List.length_cons]; omega
        · split
          · simp only [List.length_cons] at ihm ⊢; omega
          · simp only [List.length_cons] at ihm ⊢; omega
    have := this (sortU l)
    omega
theorem len_maxF (L : List (List Int)) : (maxF L).length ≤ L.length := Nat.le_trans (List.length_filter_le _ _) (len_sortC L)
theorem TIs_dv (F : List (List Int)) : List.map DV.d (List.map TI F) = F.map fun a => DV.d (TI a) := by rw [List.map_map]; rfl
def sp_is_inside : SpD := fun xs st Q => ∃ a b : List Int, xs = [.d (TI a), .d (TI b)] ∧ Q (Bo (insB a b)) st
theorem len_is_inside : ∀ xs st Q, sp_is_inside xs st Q → xs.length = 2 := by rintro xs st Q ⟨a, b, rfl, _⟩; rfl
theorem all_take {a b : List Int} {i : Nat} {x : Int} (hi : a[i]? = some x) (h : ∀ y ∈ a.take i, y ∈ b) (hx : x ∈ b) : ∀ y ∈ a.take (i + 1), y ∈ b := by
  rw [List.take_succ, hi]
  intro y hy
  rcases List.mem_append.mp hy with z | z
  · exact h y z
  · have : y = x := by simpa using z
    rw [this]
    exact hx
theorem sem_is_inside : ∀ xs st Q, sp_is_inside xs st Q → rd_is_inside { nx := fun _ st' => Fg Q (.d .none) st', rt := Fg Q } (startD 3 xs) st := by
  rintro xs st Q ⟨a, b, rfl, K⟩
  have e0 : startD 3 [.d (TI a), .d (TI b)] = [some (.d (TI a)), some (.d (TI b)), none] := rfl
  rw [e0]
  unfold rd_is_inside
  refine seq fun N hN => ?_
  walk_at "D"
  rw [List.map_map]
  refine for_byT _ (fun i ε s => s = st ∧ (∃ y, ε = [some (.d (TI a)), some (.d (TI b)), y]) ∧ ∀ x ∈ a.take i, x ∈ b) ⟨rfl, ⟨_, rfl⟩, fun x h => by simp at h⟩ (fun _ _ _ _ => trivial) ?_ ?_
  · rintro i x ε s hi ⟨rfl, ⟨y, rfl⟩, hall⟩ L hL
    walk_at "D"
    by_cases c : x ∈ b
    · simp only [c, decide_true, Bool.not_true, Bool.false_eq_true, if_false]
      exact hL _ _ ⟨rfl, ⟨_, rfl⟩, all_take hi hall c⟩
    · simp only [c, decide_false, Bool.not_false, if_true]
      have e : insB a b = false := by
        rw [Bool.eq_false_iff]
        intro h
        exact c (insB_iff.mp h x (List.mem_of_getElem? hi))
      rw [e] at K
      exact fg_ret K
  · rintro ε s ⟨rfl, ⟨y, rfl⟩, hall⟩
    refine hN _ _ ?_
    rw [List.take_length] at hall
    walk_at "D"
    rw [insB_iff.mpr hall] at K
    exact fg_ret K
theorem len_steps (q : Int) : ∀ (ev F : List (List Int)), (ev.foldl (stepG q) F).length ≤ F.length + ev.length
  | [], F => Nat.le_refl _
  | a :: ev, F => by
    rw [List.foldl_cons, List.length_cons]
    have h1 := len_steps q ev (stepG q F a)
    have h2 : (stepG q F a).length ≤ F.length + 1 := by
      unfold stepG
      split
      · rw [List.length_append]; exact Nat.le_refl _
      · omega
    omega
theorem ints_out (f : List Int) (q : Int → Bool) : ([] : List DV) ++ (f.filter q).map (fun x => I x) = ((f.filter q).map .int).map .d := by
  rw [List.nil_append, List.map_map]
  rfl
end UC
end
section
set_option Elab.async false
set_option linter.all false
set_option maxRecDepth 100000
set_option maxHeartbeats 1000000
namespace UC
open PySem L2 DL RD
theorem cutD_to {α : Type} (xs : List α) (k : Nat) : cutD xs none (some (k : Int)) = xs.take k := by
  unfold cutD
  rw [HT.sIx_nat, HT.sIx_none, Nat.sub_zero, List.drop_zero]
  by_cases h : k ≤ xs.length
  · rw [Nat.min_eq_left h]
  · rw [Nat.min_eq_right (by omega), List.take_length, List.take_of_length_le (by omega)]
theorem cutD_from {α : Type} (xs : List α) (k : Nat) (h : k < xs.length) : cutD xs (some ((k : Int) + 1)) none = xs.drop (k + 1) := by
  rw [show (k : Int) + 1 = ((k + 1 : Nat) : Int) by omega]
  unfold cutD
  rw [HT.sIx_nat, HT.sIx_none, Nat.min_eq_left (by omega), List.take_of_length_le (by rw [List.length_drop]; omega)]
theorem mk_appK (a b : List Int) : mkT ((a.map PyData.int).map .d ++ (b.map PyData.int).map .d) = .d (TI (a ++ b)) := by
  rw [mk_app, ← List.map_append]
def lowI (i : Int) : Prop := 0 ≤ i ∧ i ≤ 6
theorem short_int {i : Int} (h : lowI i) : (PyData.shown (.int i)).length ≤ 13 := PyData.shown_int_le2 (by have := h.1; omega) (by have := h.2; omega)
theorem show_int {i : Int} (h : lowI i) : PyData.showable (.int i) = true := by
  obtain ⟨h1, h2⟩ := h
  obtain ⟨n, rfl⟩ : ∃ n : Nat, i = (n : Int) := ⟨i.toNat, by omega⟩
  have : n ≤ 6 := by omega
  show decide _ = true
  have e : n.log2 < 1920 := by
    have : n.log2 ≤ n := Nat.log2_le_self n
    omega
  exact decide_eq_true e
structure Shw (n : Nat) (d : PyData) : Prop where
  s : d.showable = true
  l : d.leavesShort 13 = true
  h : d.hasDict = false
  b : d.bulk ≤ n
theorem shw_int {i : Int} (h : lowI i) : Shw 0 (.int i) := ⟨show_int h, by
  show PyData.leavesShort 13 (.int i) = true
  simp only [PyData.leavesShort, decide_eq_true_eq]
  exact short_int h, by simp only [PyData.hasDict], by simp only [PyData.bulk]; omega⟩
theorem shw_all {n : Nat} : ∀ {xs : List PyData}, (∀ x ∈ xs, Shw n x) → PyData.showableAll xs = true ∧ PyData.leavesShortAll 13 xs = true ∧ PyData.hasDictAll xs = false ∧ PyData.bulkAll xs ≤ (n + 1) * xs.length
  | [], _ => ⟨by simp only [PyData.showableAll], by simp only [PyData.leavesShortAll], by simp only [PyData.hasDictAll], by simp only [PyData.bulkAll]; omega⟩
  | x :: xs, h => by
    obtain ⟨h1, h2, h3, h4⟩ := shw_all (xs := xs) fun y hy => h y (List.mem_cons_of_mem _ hy)
    obtain ⟨g1, g2, g3, g4⟩ := h x List.mem_cons_self
    refine ⟨by simp only [PyData.showableAll, g1, h1, Bool.and_self], by simp only [PyData.leavesShortAll, g2, h2, Bool.and_self], by simp only [PyData.hasDictAll, g3, h3, Bool.or_self], ?_⟩
    simp only [PyData.bulkAll, List.length_cons, Nat.mul_succ]
    omega
theorem shw_tup {n k : Nat} {xs : List PyData} (h : ∀ x ∈ xs, Shw n x) (hk : (n + 1) * xs.length ≤ k) : Shw k (.tuple xs) := by
  obtain ⟨h1, h2, h3, h4⟩ := shw_all h
  exact ⟨by simp only [PyData.showable, h1], by simp only [PyData.leavesShort, h2], by simp only [PyData.hasDict, h3], by simp only [PyData.bulk]; omega⟩
theorem shw_lst {n k : Nat} {xs : List PyData} (h : ∀ x ∈ xs, Shw n x) (hk : (n + 1) * xs.length ≤ k) : Shw k (.list xs) := by
  obtain ⟨h1, h2, h3, h4⟩ := shw_all h
  exact ⟨by simp only [PyData.showable, h1], by simp only [PyData.leavesShort, h2], by simp only [PyData.hasDict, h3], by simp only [PyData.bulk]; omega⟩
theorem Shw.mono {n m : Nat} {d : PyData} (h : Shw n d) (hm : n ≤ m) : Shw m d := ⟨h.s, h.l, h.h, Nat.le_trans h.b hm⟩
theorem Shw.ok {n : Nat} {d : PyData} (h : Shw n d) (hn : n ≤ 1000000) (hd : d.depth ≤ 16) : reprOk d :=
  ⟨h.s, h.h, hd, PyData.shown_fits_bulk (B := 13) (by decide) (by decide) h.l (Nat.le_trans h.b (by omega))⟩
theorem shw_TI {a : List Int} (h : Fc a) : Shw 7 (TI a) := shw_tup (n := 0) (fun x hx => by
  obtain ⟨i, hi, rfl⟩ := List.mem_map.mp hx
  exact shw_int (h.2 i hi)) (by rw [List.length_map]; have := h.1; omega)
end UC
end
section
set_option Elab.async false
set_option linter.all false
set_option maxRecDepth 100000
set_option maxHeartbeats 1000000
open PySem L2 DL RD UC
local macro_rules | `(tactic| walk_at "E") => `(tactic| (try simp only [qAsg, qRet, qDrop, qIfS, qTest, qAndT, qOrT, qNotT, qAndV, qOrV, qNotV, qIf, qOp, qUn, qChain, onB, qv, qc, qgN, qgT, qgCons, qgNil, qCons, qNil, qTup, qLst, qPar, qPar3, qAug, qCB, qCall, qLen, qTupleC, qListC, qMax2, qMin2, qIntC, qSum, qAny, qAll, qIsi, tyName, qAdd, qSub, qMul, qFdiv, qMod, qPow, qI2, qCmpI, qEq, qNe, qLt, qLe, qGt, qGe, qNeg, qIx, qDGet, qDIn, qDPut, qSl, qPart, qNoPart, qNext, qFor, qiSeq, qiRng1, qiRng2, qiZip, qiEnum, qLc, seqSrc, lsrc, titems, litems, sitems, fz, newL, List.getElem?_cons_zero, List.getElem?_cons_succ, List.set_cons_zero, List.set_cons_succ, if_true, if_false, Bool.false_eq_true, ite_true, ite_false, up_same, reduceIte, decide_true, decide_false, true_and, and_true]))
local macro_rules | `(tactic| walk_at "D") => `(tactic| (try simp only [qAsg, qRet, qDrop, qIfS, qTest, qAndT, qOrT, qNotT, qAndV, qOrV, qNotV, qIf, qOp, qUn, qChain, onB, qv, qc, qgN, qgT, qgCons, qgNil, qCons, qNil, qTup, qLst, qPar, qPar3, qAug, qCB, qCall, qLen, qTupleC, qListC, qMax2, qMin2, qIntC, qSum, qAny, qAll, qIsi, tyName, qAdd, qSub, qMul, qFdiv, qMod, qPow, qI2, qCmpI, qEq, qNe, qLt, qLe, qGt, qGe, qNeg, qIx, qDGet, qDIn, qDPut, qSl, qPart, qNoPart, qNext, qFor, qiSeq, qiRng1, qiRng2, qiZip, qiEnum, qLc, seqSrc, lsrc, titems, litems, sitems, fz, newL, List.getElem?_cons_zero, List.getElem?_cons_succ, List.set_cons_zero, List.set_cons_succ, if_true, if_false, Bool.false_eq_true, ite_true, ite_false, up_same, reduceIte, decide_true, decide_false, true_and, and_true, eqv_int, eqv_bool, eqv_TI, eqv_LI, eqv_TT, eqv_LT, eqv_nilL, eqv_nilT, shaped_TI, shaped_LI, shaped_TT, shaped_LT, shaped_int, shaped_bool, shaped_nilL, shaped_nilT, dints_map2, dbools_map2, datas_map, mkT_map, mkT_0, mkT_1, mkT_2, mkT_3, List.length_map, List.length_cons, List.length_nil, List.length_append, List.map_cons, List.map_nil, wipeD, Bool.not_true, Bool.not_false, eq_self, not_true_eq_false, not_false_eq_true, kitB_tt, kitB_ll, kitB_dd, kitB_bb, kitB_ib, kitB_ii, kitB_ss, kitB_tl, kitB_lt, Function.comp, datas, Option.map_some, List.cons_append, List.nil_append, CPow, le_size4, Int.toNat_natCast, rngD0, I_eq, Bo_eq, BS.qSortB, in_IT, in_IL, in_TT, in_TL, qNotN, qIsN, qSortD, qListRg, qDispT, keyX_TI, qGet, qiItems, qLockE, qLockS, qPop, qMaxDf, qLPut, qDNew, qListItems, qListDK, qLc2, qMax1, qMin1, qAppend, qExtend, tints_TI, dv_TI, Option.bind_some, qRetN, atI_0, atI_1, atI_2, mk_appT, mk_snocI, idl, rep_I, Option.map_none, eqv_idl, shaped_idl, Bool.and_self, Bool.true_and, Bool.and_true]))
local macro_rules | `(tactic| walk_at "F") => `(tactic| (try simp only [qAsg, qRet, qDrop, qIfS, qTest, qAndT, qOrT, qNotT, qAndV, qOrV, qNotV, qIf, qOp, qUn, qChain, onB, qv, qc, qgN, qgT, qgCons, qgNil, qCons, qNil, qTup, qLst, qPar, qPar3, qAug, qCB, qCall, qLen, qTupleC, qListC, qMax2, qMin2, qIntC, qSum, qAny, qAll, qIsi, tyName, qAdd, qSub, qMul, qFdiv, qMod, qPow, qI2, qCmpI, qEq, qNe, qLt, qLe, qGt, qGe, qNeg, qIx, qDGet, qDIn, qDPut, qSl, qPart, qNoPart, qNext, qFor, qiRng1, qiRng2, qiZip, qiEnum, qLc, fz, newL, List.getElem?_cons_zero, List.getElem?_cons_succ, List.set_cons_zero, List.set_cons_succ, if_true, if_false, Bool.false_eq_true, ite_true, ite_false, up_same, reduceIte, decide_true, decide_false, true_and, and_true, eqv_int, eqv_bool, eqv_TI, eqv_LI, eqv_TT, eqv_LT, eqv_nilL, eqv_nilT, shaped_TI, shaped_LI, shaped_TT, shaped_LT, shaped_int, shaped_bool, shaped_nilL, shaped_nilT, dints_map2, dbools_map2, datas_map, mkT_map, mkT_0, mkT_1, mkT_2, mkT_3, List.length_map, List.length_cons, List.length_nil, List.length_append, List.map_cons, List.map_nil, wipeD, Bool.not_true, Bool.not_false, eq_self, not_true_eq_false, not_false_eq_true, kitB_tt, kitB_ll, kitB_dd, kitB_bb, kitB_ib, kitB_ii, kitB_ss, kitB_tl, kitB_lt, Function.comp, datas, Option.map_some, List.cons_append, List.nil_append, CPow, le_size4, Int.toNat_natCast, rngD0, I_eq, Bo_eq, BS.qSortB, in_IT, in_IL, in_TT, in_TL, qNotN, qIsN, qSortD, qListRg, qDispT, keyX_TI, qGet, qiItems, qLockE, qLockS, qPop, qMaxDf, qLPut, qDNew, qListItems, qListDK, qLc2, qMax1, qMin1, qAppend, qExtend, tints_TI, dv_TI, Option.bind_some, qRetN, atI_0, atI_1, atI_2, mk_appT, mk_snocI, idl, rep_I, Option.map_none, eqv_idl, shaped_idl, Bool.and_self, Bool.true_and, Bool.and_true]))
namespace UC
open PySem L2 DL RD
def sp_law_inside : SpD := fun xs st Q => ∃ (a b : List Int) (x : DV), xs = [.d (TI a), x] ∧ (x = .d (TI b) ∨ x = .d (LI b)) ∧ a.length ≤ 1000 ∧ Q (Bo (insB a b)) st
theorem len_law_inside : ∀ xs st Q, sp_law_inside xs st Q → xs.length = 2 := by rintro xs st Q ⟨a, b, x, rfl, _⟩; rfl
theorem sem_law_inside : ∀ xs st Q, sp_law_inside xs st Q → rd_law_inside { nx := fun _ st' => Fg Q (.d .none) st', rt := Fg Q } (startD 3 xs) st := by
  rintro xs st Q ⟨a, b, x, rfl, hx, hl, K⟩
  have e0 : startD 3 [.d (TI a), x] = [some (.d (TI a)), some x, none] := rfl
  rw [e0]
  unfold rd_law_inside
  walk_at "D"
  refine ⟨by rw [sizeL]; omega, ?_⟩
  rw [List.map_map]
  refine comp_fmT _ (fun y => !decide (y ∈ b)) (fun y => I y) trivial _ _ ?_ ?_
  · intro y hy Q1 Q2 h
    rcases hx with rfl | rfl
    · walk_at "D"
      exact h
    · walk_at "D"
      exact h
  · rw [ints_out]
    walk_at "D"
    refine ⟨by decide, ?_⟩
    have e : decide (a.filter (fun y => !decide (y ∈ b)) = []) = insB a b := by
      unfold insB
      rw [Bool.eq_iff_iff, decide_eq_true_eq, List.filter_eq_nil_iff, List.all_eq_true]
      simp
    rw [← e] at K
    exact fg_ret K
def sp_law_facets : SpD := fun xs st Q => ∃ (L : List (List Int)) (x : DV), xs = [x] ∧ sitems st x = some ((L.map TI).map .d) ∧ L.length < 4000 ∧ (∀ a ∈ L, a.length ≤ 1000) ∧ Q (.d (TT (maxF L))) st
theorem len_law_facets : ∀ xs st Q, sp_law_facets xs st Q → xs.length = 1 := by rintro xs st Q ⟨L, x, rfl, _⟩; rfl
theorem sem_law_facets : ∀ xs st Q, sp_law_facets xs st Q → rd_law_facets sp_law_inside { nx := fun _ st' => Fg Q (.d .none) st', rt := Fg Q } (startD 4 xs) st := by
  rintro xs st Q ⟨L, x, rfl, hx, hl, hla, K⟩
  have e0 : startD 4 [x] = [some x, none, none, none] := rfl
  rw [e0]
  unfold rd_law_facets
  refine seq fun N hN => ?_
  simp only [qAsg, BS.qSortB, qv, List.getElem?_cons_zero, hx]
  walk_at "D"
  refine ⟨hl, hN _ _ ?_⟩; clear hN N
  have hls := len_sortC L
  walk_at "D"
  refine ⟨by rw [sizeL]; omega, ?_⟩
  rw [TIs_dv]
  refine comp_fmT _ (fun a => decide ((sortU L).filter (fun b => decide (b ≠ a) && insB a b) = [])) (fun a => .d (TI a)) trivial _ _ ?_ ?_
  · intro a ha Q1 Q2 h
    have hal := hla a (mem_sortU.mp ha)
    walk_at "D"
    refine ⟨by rw [sizeL]; omega, ?_⟩
    rw [TIs_dv]
    refine comp_fmT _ (fun b => decide (b ≠ a) && insB a b) (fun b => .d (TI b)) trivial _ _ ?_ ?_
    · intro b hb Q3 Q4 h2
      walk_at "D"
      by_cases c : b = a
      · simp only [c, decide_true, Bool.not_true, Bool.false_eq_true, if_false, ne_eq, not_true_eq_false, decide_false, Bool.false_and] at h2 ⊢
        exact h2
      · simp only [c, decide_false, Bool.not_false, if_true, ne_eq, not_false_eq_true, decide_true, Bool.true_and] at h2 ⊢
        exact ⟨a, b, _, rfl, .inl rfl, hal, h2⟩
    · have e1 : ([] : List DV) ++ ((sortU L).filter fun b => decide (b ≠ a) && insB a b).map (fun b => DV.d (TI b)) = ((((sortU L).filter fun b => decide (b ≠ a) && insB a b)).map TI).map .d := by
        rw [List.nil_append, List.map_map]
        rfl
      rw [e1]
      walk_at "D"
      refine ⟨by decide, ?_⟩
      exact h
  · have e1 : ([] : List DV) ++ ((sortU L).filter fun a => decide ((sortU L).filter (fun b => decide (b ≠ a) && insB a b) = [])).map (fun a => DV.d (TI a)) = ((maxF L).map TI).map .d := by
      rw [List.nil_append, List.map_map]
      rfl
    rw [e1]
    walk_at "D"
    exact fg_ret K
theorem subs_len7 (f : List Int) (h : f.length ≤ 7) : (subsL f).length ≤ 128 := by
  rw [len_subs]
  exact Nat.le_trans (Nat.pow_le_pow_right (by decide) h) (by decide)
theorem len_facesF7 (F : List (List Int)) (h : ∀ f ∈ F, f.length ≤ 7) : (facesF F).length ≤ 128 * F.length := by
  have key : ∀ (F acc : List (List Int)), (∀ f ∈ F, f.length ≤ 7) → (F.foldl stepFc acc).length ≤ acc.length + 128 * F.length := by
    intro F
    induction F with
    | nil => exact fun acc _ => Nat.le_refl _
    | cons f F ih =>
      intro acc h
      rw [List.foldl_cons, List.length_cons]
      have h1 := ih (stepFc acc f) fun g hg => h g (List.mem_cons_of_mem _ hg)
      have h2 : (stepFc acc f).length ≤ acc.length + 128 := by
        refine Nat.le_trans (len_sortC _) ?_
        rw [List.length_append]
        have := subs_len7 f (h f List.mem_cons_self)
        omega
      omega
  have := key F [] h
  simpa [facesF] using this
def sp_law_faces : SpD := fun xs st Q => ∃ (F : List (List Int)), xs = [.d (TT F)] ∧ F.length ≤ 10 ∧ (∀ f ∈ F, f.length ≤ 7) ∧ Q (.d (LT (facesF F))) st
theorem len_law_faces : ∀ xs st Q, sp_law_faces xs st Q → xs.length = 1 := by rintro xs st Q ⟨F, rfl, _⟩; rfl
theorem sem_law_faces : ∀ xs st Q, sp_law_faces xs st Q → rd_law_faces sp_law_subsets { nx := fun _ st' => Fg Q (.d .none) st', rt := Fg Q } (startD 3 xs) st := by
  rintro xs st Q ⟨F, rfl, hl, h6, K⟩
  have e0 : startD 3 [.d (TT F)] = [some (.d (TT F)), none, none] := rfl
  rw [e0]
  unfold rd_law_faces
  refine seq fun N hN => ?_
  walk_at "D"
  refine ⟨by decide, hN _ _ ?_⟩; clear hN N
  refine seq fun N hN => ?_
  walk_at "D"
  rw [TIs_dv]
  refine for_byT _ (fun i ε s => Le st s ∧ ∃ y2, ε = [some (.d (TT F)), some (.d (LT ((F.take i).foldl stepFc []))), y2]) ⟨Le.refl _, _, rfl⟩ (fun _ _ _ _ => trivial) ?_ ?_
  · rintro i f ε s hi ⟨le, y2, rfl⟩ L hL
    have hf := h6 f (List.mem_of_getElem? hi)
    have hnx : (F.take (i + 1)).foldl stepFc [] = stepFc ((F.take i).foldl stepFc []) f := by
      rw [List.take_succ, hi, List.foldl_append]
      rfl
    have hlen : ((F.take i).foldl stepFc []).length ≤ 1280 := Nat.le_trans (len_facesF7 (F.take i) fun g hg => h6 g (List.mem_of_mem_take hg)) (by rw [List.length_take]; omega)
    generalize (F.take i).foldl stepFc [] = T at hnx hlen
    walk_at "D"
    refine ⟨_, f, rfl, rfl, by omega, fun y s2 le2 _ _ hy => ?_⟩
    simp only [litems] at hy
    simp only [hy, ← List.map_append, datas_map, tints_TI]
    have := subs_len7 f hf
    refine ⟨by simp only [List.length_map, sizeL]; omega, by rw [List.length_append]; omega, hL _ _ ⟨le.trans le2, some (.d (TI f)), ?_⟩⟩
    rw [hnx]
    rfl
  · rintro ε s ⟨le, y2, rfl⟩
    refine hN _ _ ?_
    rw [List.take_length]
    walk_at "D"
    exact fg_le le K
theorem comp_byT {α : Type} (h : α → DV) {inv : Sto → Prop} {g : TDg} {tt : TDt} {te : TD} {ε : DL.Env} {Kc : List DV → Sto → Prop} (W : Nat → List DV → Sto → Prop) (hi : ∀ i acc st, W i acc st → inv st) (l : List α) (st : Sto) (w0 : W 0 [] st)
    (hs : ∀ (i : Nat) (x : α) acc st, l[i]? = some x → W i acc st → ∀ L : List DV → Sto → Prop, (∀ acc' st', W (i + 1) acc' st' → L acc' st') → g (h x) ε st fun ε1 s1 => tt ε1 s1 fun b s2 => if b = true then te ε1 s2 fun y s3 => L (acc ++ [y]) s3 else L acc s2)
    (hd : ∀ acc st, W l.length acc st → Kc acc st) : qComp inv g tt te ε Kc (l.map h) [] st := by
  have : ∀ (r : List α) (i : Nat) acc st, l.drop i = r → i + r.length = l.length → W i acc st → qComp inv g tt te ε Kc (r.map h) acc st := by
    intro r
    induction r with
    | nil =>
      intro i acc st hdr hlen w
      have e : i = l.length := by simpa using hlen
      subst e
      exact ⟨hi _ _ _ w, hd _ _ w⟩
    | cons y r ih =>
      intro i acc st hdr hlen w
      have hx : l[i]? = some y := by
        have := congrArg (fun z => z[0]?) hdr
        simp only [List.getElem?_drop, List.getElem?_cons_zero, Nat.add_zero] at this
        exact this
      refine ⟨hi _ _ _ w, hs i y acc st hx w _ fun acc' st' w' => ?_⟩
      refine ih (i + 1) acc' st' ?_ (by simp only [List.length_cons] at hlen; omega) w'
      rw [← List.drop_drop, hdr]
      rfl
  exact this l 0 [] st rfl (by simp) w0
theorem asc_snoc {a : List Int} {k : Nat} (h : Asc a) (hl : ∀ x ∈ a, 0 ≤ x ∧ x < (k : Int)) : Asc (a ++ [(k : Int)]) := by
  show List.Pairwise (· < ·) _
  rw [List.pairwise_append]
  refine ⟨h, List.pairwise_singleton _ _, fun x hx y hy => ?_⟩
  rw [List.mem_singleton.mp hy]
  exact (hl x hx).2
def sp_law_drawn_set : SpD := fun xs st Q => ∃ (m : Addr) (v odds B : Nat), xs = [.r m, I v, I odds] ∧ v ≤ 12 ∧ 1 ≤ odds ∧ odds ≤ 10 ∧ B + 20 < 2 ^ 50 ∧ DrawSt st m B ∧ ∀ (a : List Int) st', Asc a → (∀ x ∈ a, 0 ≤ x ∧ x < (v : Int)) → DrawSt st' m (B + 20) → Q (.d (TI a)) st'
theorem len_law_drawn_set : ∀ xs st Q, sp_law_drawn_set xs st Q → xs.length = 3 := by rintro xs st Q ⟨m, v, o, B, rfl, _⟩; rfl
theorem sem_law_drawn_set : ∀ xs st Q, sp_law_drawn_set xs st Q → rd_law_drawn_set sp_law_draw { nx := fun _ st' => Fg Q (.d .none) st', rt := Fg Q } (startD 4 xs) st := by
  rintro xs st Q ⟨m, v, odds, B, rfl, hv, h1, h2, hB, D, K⟩
  have e0 : startD 4 [.r m, I v, I odds] = [some (.r m), some (I v), some (I odds), none] := rfl
  rw [e0]
  unfold rd_law_drawn_set
  walk_at "D"
  refine ⟨by omega, by omega, by rw [List.length_range, sizeL]; omega, ?_⟩
  refine comp_byT _ (fun i acc s => DrawSt s m (B + i) ∧ ∃ a : List Int, acc = (a.map .int).map .d ∧ Asc a ∧ ∀ x ∈ a, 0 ≤ x ∧ x < (i : Int)) (fun _ _ _ _ => trivial) _ st ⟨D, [], rfl, List.Pairwise.nil, fun x h => (nomatch h)⟩ ?_ ?_
  · rintro i k acc s hi ⟨D1, a, rfl, hA, hl⟩ L hL
    obtain ⟨rfl, hiv⟩ := range_some hi
    walk_at "D"
    refine draw D1 (by omega) (by omega) (by omega) fun x s2 l2 u2 D2 _ => ?_
    walk_at "D"
    by_cases c : 0 < x
    · simp only [c, decide_true, if_true]
      refine hL _ _ ⟨D2, a ++ [(k : Int)], ?_, asc_snoc hA hl, fun y hy => ?_⟩
      · rw [List.map_append, List.map_append]
        rfl
      · rcases List.mem_append.mp hy with z | z
        · have := hl y z
          omega
        · rw [List.mem_singleton.mp z]
          omega
    · simp only [c, decide_false, Bool.false_eq_true, if_false]
      exact hL _ _ ⟨D2, a, rfl, hA, fun y hy => by have := hl y hy; omega⟩
  · rintro acc s ⟨D1, a, rfl, hA, hl⟩
    rw [List.length_range] at D1 hl
    walk_at "D"
    exact fg_ret (K a s hA hl (D1.mono (by omega)))
theorem cx_nil (v : Nat) : IsCx v [] := ⟨List.Pairwise.nil, fun a h => (nomatch h), fun a h => (nomatch h), fun a h => (nomatch h)⟩
theorem cx_one (v : Nat) : IsCx v [[]] := ⟨List.pairwise_singleton _ _, fun a h => by rw [List.mem_singleton.mp h]; exact List.Pairwise.nil, fun a h x hx => (by rw [List.mem_singleton.mp h] at hx; cases hx), fun a h b h' _ => by rw [List.mem_singleton.mp h, List.mem_singleton.mp h']⟩
def sp_law_complex : SpD := fun xs st Q => ∃ (m : Addr) (v B : Nat), xs = [.r m, I v] ∧ v ≤ 6 ∧ B + 200 < 2 ^ 50 ∧ DrawSt st m B ∧ ∀ (F : List (List Int)) st', IsCx v F → F.length ≤ 5 → DrawSt st' m (B + 200) → Q (.d (TT F)) st'
theorem len_law_complex : ∀ xs st Q, sp_law_complex xs st Q → xs.length = 2 := by rintro xs st Q ⟨m, v, B, rfl, _⟩; rfl
theorem sem_law_complex : ∀ xs st Q, sp_law_complex xs st Q → rd_law_complex sp_law_draw sp_law_of sp_law_drawn_set sp_law_facets { nx := fun _ st' => Fg Q (.d .none) st', rt := Fg Q } (startD 5 xs) st := by
  rintro xs st Q ⟨m, v, B, rfl, hv, hB, D, K⟩
  have e0 : startD 5 [.r m, I v] = [some (.r m), some (I v), none, none, none] := rfl
  rw [e0]
  unfold rd_law_complex
  refine seq fun N hN => ?_
  walk_at "D"
  refine draw D (by omega) (by omega) (by omega) fun x s2 l2 u2 D2 _ => ?_
  refine hN _ _ ?_; clear hN N
  refine seq fun N hN => ?_
  walk_at "D"
  by_cases c : x < 2
  · simp only [c, decide_true, if_true]
    by_cases c2 : x = 0
    · simp only [c2, decide_true, if_true]
      walk_at "D"
      exact ⟨by decide, by decide, fg_ret (K [[]] _ (cx_one v) (by decide) (D2.mono (by omega)))⟩
    · simp only [c2, decide_false, Bool.false_eq_true, if_false]
      walk_at "D"
      exact ⟨by decide, fg_ret (K [] _ (cx_nil v) (by decide) (D2.mono (by omega)))⟩
  simp only [c, decide_false, Bool.false_eq_true, if_false]
  refine hN _ _ ?_; clear hN N
  refine seq fun N hN => ?_
  walk_at "D"
  refine drawI [2, 2, 3, 4] D2 (fun h => nomatch h) (by simp) (by omega) fun odds s3 ho D3 _ => ?_
  obtain ⟨o, rfl, o1, o2⟩ : ∃ o : Nat, odds = (o : Int) ∧ 1 ≤ o ∧ o ≤ 10 := by
    simp only [List.mem_cons, List.not_mem_nil, or_false] at ho
    exact ⟨odds.toNat, by omega, by omega, by omega⟩
  refine hN _ _ ?_; clear hN N
  walk_at "D"
  refine draw D3 (by omega) (by omega) (by omega) fun y s4 l4 u4 D4 _ => ?_
  obtain ⟨t, ht⟩ : ∃ t : Nat, 1 + y = (t : Int) := ⟨(1 + y).toNat, by omega⟩
  walk_at "D"
  rw [ht]
  refine ⟨by omega, by omega, ?_⟩
  walk_at "D"
  refine ⟨by rw [List.length_range, sizeL]; omega, ?_⟩
  refine comp_byT _ (fun i acc s => DrawSt s m (B + 3 + 20 * i) ∧ ∃ L : List (List Int), acc = (L.map TI).map .d ∧ L.length = i ∧ AscL L ∧ LowL v L) (fun _ _ _ _ => trivial) _ s4 ⟨D4, [], rfl, rfl, fun x h => (nomatch h), fun x h => (nomatch h)⟩ ?_ ?_
  · rintro i k acc s hi ⟨D1, L0, rfl, hl0, hA, hl⟩ L hL
    obtain ⟨rfl, hiv⟩ := range_some hi
    simp only [qYes]
    walk_at "D"
    refine ⟨m, v, o, _, rfl, by omega, o1, o2, by omega, D1, fun a s' ha hal D5 => ?_⟩
    refine hL _ _ ⟨D5.mono (by omega), L0 ++ [a], ?_, by rw [List.length_append, hl0]; rfl, fun z hz => ?_, fun z hz => ?_⟩
    · rw [List.map_append, List.map_append]
      rfl
    · rcases List.mem_append.mp hz with q | q
      · exact hA z q
      · rw [List.mem_singleton.mp q]
        exact ha
    · rcases List.mem_append.mp hz with q | q
      · exact hl z q
      · rw [List.mem_singleton.mp q]
        exact hal
  · rintro acc s ⟨D1, L0, rfl, hl0, hA, hl⟩
    rw [List.length_range] at D1 hl0
    walk_at "D"
    refine ⟨L0, _, rfl, rfl, by omega, fun a ha => by have := asc_long (hA a ha) (hl a ha); omega, fg_ret (K _ s (cx_maxF hA hl) (Nat.le_trans (len_maxF L0) (by omega)) (D1.mono (by omega)))⟩
theorem go_repr {d : PyData} {st : Sto} {Q : DV → Sto → Prop} (ok : reprOk d) (hs : ∀ x, d ≠ .str x) (h : Q (.d (.str d.shown)) st) : qRepr [.d d] st Q := ⟨ok, hs, h⟩
theorem go_neS {x : Str} {st : Sto} {Q : DV → Sto → Prop} (h : Q (Bo false) st) : qNeS (.d (.str x)) (.d (.str x)) st Q := by
  show Q (.d (.bool (x.cps.toList != x.cps.toList))) st
  rw [show (x.cps.toList != x.cps.toList) = false by simp]
  exact h
theorem turnsR (l : Nat) (m M : Int) (h : 0 ≤ m) (hM : m ≤ M) : ∃ t : Nat, (if (if (l : Int) < M then (l : Int) else M) > m then (if (l : Int) < M then (l : Int) else M) else m) = (t : Int) ∧ (t : Int) ≤ M := by
  refine ⟨(if (if (l : Int) < M then (l : Int) else M) > m then (if (l : Int) < M then (l : Int) else M) else m).toNat, ?_, ?_⟩ <;> split <;> split <;> omega
theorem depth_TT (F : List (List Int)) : (TT F).depth ≤ 16 := by
  have : (TT F).depth ≤ 2 := (sh_tuple (n := 1) (forall_map fun _ _ => sh_TI (n := 0))).2
  omega
end UC
end
section
set_option Elab.async false
set_option linter.all false
set_option maxRecDepth 100000
set_option maxHeartbeats 1000000
open PySem L2 DL RD UC
local macro_rules | `(tactic| walk_at "E") => `(tactic| (try simp only [qAsg, qRet, qDrop, qIfS, qTest, qAndT, qOrT, qNotT, qAndV, qOrV, qNotV, qIf, qOp, qUn, qChain, onB, qv, qc, qgN, qgT, qgCons, qgNil, qCons, qNil, qTup, qLst, qPar, qPar3, qAug, qCB, qCall, qLen, qTupleC, qListC, qMax2, qMin2, qIntC, qSum, qAny, qAll, qIsi, tyName, qAdd, qSub, qMul, qFdiv, qMod, qPow, qI2, qCmpI, qEq, qNe, qLt, qLe, qGt, qGe, qNeg, qIx, qDGet, qDIn, qDPut, qSl, qPart, qNoPart, qNext, qFor, qiSeq, qiRng1, qiRng2, qiZip, qiEnum, qLc, seqSrc, lsrc, titems, litems, sitems, fz, newL, List.getElem?_cons_zero, List.getElem?_cons_succ, List.set_cons_zero, List.set_cons_succ, if_true, if_false, Bool.false_eq_true, ite_true, ite_false, up_same, reduceIte, decide_true, decide_false, true_and, and_true]))
local macro_rules | `(tactic| walk_at "D") => `(tactic| (try simp only [qAsg, qRet, qDrop, qIfS, qTest, qAndT, qOrT, qNotT, qAndV, qOrV, qNotV, qIf, qOp, qUn, qChain, onB, qv, qc, qgN, qgT, qgCons, qgNil, qCons, qNil, qTup, qLst, qPar, qPar3, qAug, qCB, qCall, qLen, qTupleC, qListC, qMax2, qMin2, qIntC, qSum, qAny, qAll, qIsi, tyName, qAdd, qSub, qMul, qFdiv, qMod, qPow, qI2, qCmpI, qEq, qNe, qLt, qLe, qGt, qGe, qNeg, qIx, qDGet, qDIn, qDPut, qSl, qPart, qNoPart, qNext, qFor, qiSeq, qiRng1, qiRng2, qiZip, qiEnum, qLc, seqSrc, lsrc, titems, litems, sitems, fz, newL, List.getElem?_cons_zero, List.getElem?_cons_succ, List.set_cons_zero, List.set_cons_succ, if_true, if_false, Bool.false_eq_true, ite_true, ite_false, up_same, reduceIte, decide_true, decide_false, true_and, and_true, eqv_int, eqv_bool, eqv_TI, eqv_LI, eqv_TT, eqv_LT, eqv_nilL, eqv_nilT, shaped_TI, shaped_LI, shaped_TT, shaped_LT, shaped_int, shaped_bool, shaped_nilL, shaped_nilT, dints_map2, dbools_map2, datas_map, mkT_map, mkT_0, mkT_1, mkT_2, mkT_3, List.length_map, List.length_cons, List.length_nil, List.length_append, List.map_cons, List.map_nil, wipeD, Bool.not_true, Bool.not_false, eq_self, not_true_eq_false, not_false_eq_true, kitB_tt, kitB_ll, kitB_dd, kitB_bb, kitB_ib, kitB_ii, kitB_ss, kitB_tl, kitB_lt, Function.comp, datas, Option.map_some, List.cons_append, List.nil_append, CPow, le_size4, Int.toNat_natCast, rngD0, I_eq, Bo_eq, BS.qSortB, in_IT, in_IL, in_TT, in_TL, qNotN, qIsN, qSortD, qListRg, qDispT, keyX_TI, qGet, qiItems, qLockE, qLockS, qPop, qMaxDf, qLPut, qDNew, qListItems, qListDK, qLc2, qMax1, qMin1, qAppend, qExtend, tints_TI, dv_TI, Option.bind_some, qRetN, atI_0, atI_1, atI_2, mk_appT, mk_snocI, idl, rep_I, Option.map_none, eqv_idl, shaped_idl, Bool.and_self, Bool.true_and, Bool.and_true]))
local macro_rules | `(tactic| walk_at "F") => `(tactic| (try simp only [qAsg, qRet, qDrop, qIfS, qTest, qAndT, qOrT, qNotT, qAndV, qOrV, qNotV, qIf, qOp, qUn, qChain, onB, qv, qc, qgN, qgT, qgCons, qgNil, qCons, qNil, qTup, qLst, qPar, qPar3, qAug, qCB, qCall, qLen, qTupleC, qListC, qMax2, qMin2, qIntC, qSum, qAny, qAll, qIsi, tyName, qAdd, qSub, qMul, qFdiv, qMod, qPow, qI2, qCmpI, qEq, qNe, qLt, qLe, qGt, qGe, qNeg, qIx, qDGet, qDIn, qDPut, qSl, qPart, qNoPart, qNext, qFor, qiRng1, qiRng2, qiZip, qiEnum, qLc, fz, newL, List.getElem?_cons_zero, List.getElem?_cons_succ, List.set_cons_zero, List.set_cons_succ, if_true, if_false, Bool.false_eq_true, ite_true, ite_false, up_same, reduceIte, decide_true, decide_false, true_and, and_true, eqv_int, eqv_bool, eqv_TI, eqv_LI, eqv_TT, eqv_LT, eqv_nilL, eqv_nilT, shaped_TI, shaped_LI, shaped_TT, shaped_LT, shaped_int, shaped_bool, shaped_nilL, shaped_nilT, dints_map2, dbools_map2, datas_map, mkT_map, mkT_0, mkT_1, mkT_2, mkT_3, List.length_map, List.length_cons, List.length_nil, List.length_append, List.map_cons, List.map_nil, wipeD, Bool.not_true, Bool.not_false, eq_self, not_true_eq_false, not_false_eq_true, kitB_tt, kitB_ll, kitB_dd, kitB_bb, kitB_ib, kitB_ii, kitB_ss, kitB_tl, kitB_lt, Function.comp, datas, Option.map_some, List.cons_append, List.nil_append, CPow, le_size4, Int.toNat_natCast, rngD0, I_eq, Bo_eq, BS.qSortB, in_IT, in_IL, in_TT, in_TL, qNotN, qIsN, qSortD, qListRg, qDispT, keyX_TI, qGet, qiItems, qLockE, qLockS, qPop, qMaxDf, qLPut, qDNew, qListItems, qListDK, qLc2, qMax1, qMin1, qAppend, qExtend, tints_TI, dv_TI, Option.bind_some, qRetN, atI_0, atI_1, atI_2, mk_appT, mk_snocI, idl, rep_I, Option.map_none, eqv_idl, shaped_idl, Bool.and_self, Bool.true_and, Bool.and_true]))
namespace UC
open PySem L2 DL RD CpComb
theorem mem_putT {l : List (List Int × DV)} {a : List Int} {v : DV} {x : List Int} : x ∈ (putT l a v).map (·.1) ↔ x ∈ l.map (·.1) ∨ x = a := by
  unfold putT
  split
  · rename_i h
    have e : (l.map fun p => if p.1 = a then (p.1, v) else p).map (·.1) = l.map (·.1) := by
      rw [List.map_map]
      refine List.map_congr_left fun p _ => ?_
      show (if p.1 = a then (p.1, v) else p).1 = p.1
      split <;> rfl
    rw [e]
    refine ⟨.inl, fun z => z.elim id fun z => ?_⟩
    obtain ⟨p, hp, ep⟩ := List.any_eq_true.mp h
    rw [z, ← of_decide_eq_true ep]
    exact List.mem_map.mpr ⟨p, hp, rfl⟩
  · rw [List.map_append, List.mem_append, List.map_singleton, List.mem_singleton]
theorem len_putT (l : List (List Int × DV)) (a : List Int) (v : DV) : (putT l a v).length ≤ l.length + 1 := by
  unfold putT
  split
  · rw [List.length_map]; omega
  · rw [List.length_append, List.length_singleton]; exact Nat.le_refl _
theorem comb_dv (f : List Int) (r : Nat) : (combL ((f.map PyData.int).map DV.d) r).map mkT = (combL f r).map fun c => DV.d (TI c) := by
  rw [List.map_map, combL_map, List.map_map]
  refine List.map_congr_left fun c _ => ?_
  show mkT (c.map (DV.d ∘ PyData.int)) = _
  rw [← List.map_map, mkT_map]
theorem len_combL : ∀ (f : List Int) (r : Nat), (combL f r).length ≤ 2 ^ f.length
  | f, 0 => by rw [combL_zero]; exact Nat.one_le_two_pow
  | [], r + 1 => Nat.zero_le _
  | x :: f, r + 1 => by
    rw [combL, List.length_append, List.length_map, List.length_cons, Nat.pow_succ]
    have := len_combL f r
    have := len_combL f (r + 1)
    omega
def sp_borders : SpD := fun xs st Q => ∃ a : List Int, xs = [.d (TI a)] ∧ a.length ≤ 12 ∧ Q (.d (LT (bordA a))) st
theorem len_borders : ∀ xs st Q, sp_borders xs st Q → xs.length = 1 := by rintro xs st Q ⟨a, rfl, _⟩; rfl
theorem sem_borders : ∀ xs st Q, sp_borders xs st Q → rd_borders { nx := fun _ st' => Fg Q (.d .none) st', rt := Fg Q } (startD 2 xs) st := by
  rintro xs st Q ⟨a, rfl, hl, K⟩
  have e0 : startD 2 [.d (TI a)] = [some (.d (TI a)), none] := rfl
  rw [e0]
  unfold rd_borders
  walk_at "D"
  refine ⟨by omega, by omega, by rw [List.length_range, sizeL]; omega, ?_⟩
  refine comp_mapT _ (fun (k : Nat) => .d (TI (a.take k ++ a.drop (k + 1)))) trivial _ _ ?_ ?_
  · intro k hk Q1 h
    rw [List.mem_range] at hk
    walk_at "D"
    simp only [cutD_map]
    rw [cutD_to, cutD_from _ _ hk]
    walk_at "D"
    refine ⟨by rw [List.length_take, List.length_drop, sizeL]; omega, ?_⟩
    rw [mk_appK]
    exact h
  · have e1 : [] ++ (List.range a.length).map (fun k => DV.d (TI (a.take k ++ a.drop (k + 1)))) = ((bordA a).map TI).map .d := by
      unfold bordA
      rw [List.nil_append, List.map_map, List.map_map]
      rfl
    rw [e1]
    walk_at "D"
    exact fg_ret K
/-- all faces, in a new dict -/
def sp_all_faces : SpD := fun xs st Q => ∃ (F : List (List Int)), xs = [.d (TT F)] ∧ F.length ≤ 200 ∧ (∀ f ∈ F, f.length ≤ 7) ∧
  ∀ (p : Addr) (l : List (List Int × DV)) st', st p = none → st' p = some (.dT (tabD l)) → (∀ b, b ≠ p → st' b = st b) → (∀ x, x ∈ l.map (·.1) ↔ x ∈ facesF F) → Q (.r p) st'
theorem len_all_faces : ∀ xs st Q, sp_all_faces xs st Q → xs.length = 1 := by rintro xs st Q ⟨F, rfl, _⟩; rfl
theorem sem_all_faces : ∀ xs st Q, sp_all_faces xs st Q → rd_all_faces { nx := fun _ st' => Fg Q (.d .none) st', rt := Fg Q } (startD 5 xs) st := by
  rintro xs st Q ⟨F, rfl, hl, h7, K⟩
  have e0 : startD 5 [.d (TT F)] = [some (.d (TT F)), none, none, none, none] := rfl
  rw [e0]
  unfold rd_all_faces
  refine seq fun N hN => ?_
  walk_at "D"
  refine fun p hp => hN _ _ ?_; clear hN N
  refine seq fun N hN => ?_
  walk_at "D"
  rw [TIs_dv]
  refine for_byT _ (fun i ε s => (∃ y2 y3 y4, ε = [some (.d (TT F)), some (.r p), y2, y3, y4]) ∧ (∀ b, b ≠ p → s b = st b) ∧ ∃ l : List (List Int × DV), s p = some (.dT (tabD l)) ∧ l.length ≤ 1024 * i ∧ ∀ x, x ∈ l.map (·.1) ↔ ∃ g ∈ F.take i, x.Sublist g) ⟨⟨_, _, _, rfl⟩, fun b hb => up_ne hb, [], up_same, Nat.zero_le _, fun x => by simp⟩ (fun _ _ _ _ => trivial) ?_ ?_
  · rintro i f ε s hi ⟨⟨y2, y3, y4, rfl⟩, fr, l, hs, hll, hk⟩ L hL
    have hif : i < F.length := (List.getElem?_eq_some_iff.mp hi).1
    have hf := h7 f (List.mem_of_getElem? hi)
    have hcl : ∀ r, (combL f r).length ≤ 128 := fun r => Nat.le_trans (len_combL f r) (Nat.le_trans (Nat.pow_le_pow_right (by decide) hf) (by decide))
    walk_at "D"
    obtain ⟨w, hw⟩ : ∃ w : Nat, (f.length : Int) + 1 = (w : Int) := ⟨f.length + 1, by omega⟩
    rw [hw]
    refine ⟨by omega, by omega, ?_⟩
    walk_at "D"
    refine for_byT _ (fun j ε s' => (∃ y3 y4, ε = [some (.d (TT F)), some (.r p), some (.d (TI f)), y3, y4]) ∧ (∀ b, b ≠ p → s' b = st b) ∧ ∃ l : List (List Int × DV), s' p = some (.dT (tabD l)) ∧ l.length ≤ 1024 * i + 128 * j ∧ ∀ x, x ∈ l.map (·.1) ↔ (∃ g ∈ F.take i, x.Sublist g) ∨ (x.Sublist f ∧ x.length < j)) ⟨⟨_, _, rfl⟩, fr, l, hs, hll, fun x => by rw [hk x]; simp⟩ (fun _ _ _ _ => trivial) ?_ ?_
    · rintro j r ε s' hj ⟨⟨z3, z4, rfl⟩, fr', l', hs', hll', hk'⟩ L2 hL2
      obtain ⟨rfl, hjw⟩ := range_some hj
      walk_at "D"
      simp only [qiComb]
      walk_at "D"
      refine ⟨⟨by omega, by omega, by omega⟩, ?_⟩
      rw [comb_dv]
      refine for_byT _ (fun q ε s'' => (∃ y4, ε = [some (.d (TT F)), some (.r p), some (.d (TI f)), some (I (r : Int)), y4]) ∧ (∀ b, b ≠ p → s'' b = st b) ∧ ∃ l : List (List Int × DV), s'' p = some (.dT (tabD l)) ∧ l.length ≤ 1024 * i + 128 * r + q ∧ ∀ x, x ∈ l.map (·.1) ↔ ((∃ g ∈ F.take i, x.Sublist g) ∨ (x.Sublist f ∧ x.length < r)) ∨ x ∈ (combL f r).take q) ⟨⟨_, rfl⟩, fr', l', hs', hll', fun x => by rw [hk' x]; simp⟩ (fun _ _ _ _ => trivial) ?_ ?_
      · rintro q c ε s'' hq ⟨⟨w4, rfl⟩, fr'', l'', hs'', hll'', hk''⟩ L3 hL3
        have hql : q < (combL f r).length := (List.getElem?_eq_some_iff.mp hq).1
        have := hcl r
        walk_at "D"
        simp only [hs'', dput_tab l'' c (Bo true) (show l''.length < sizeLine by rw [sizeL]; omega)]
        refine hL3 _ _ ⟨⟨_, rfl⟩, fun b hb => by rw [up_ne hb]; exact fr'' b hb, _, up_same, Nat.le_trans (len_putT _ _ _) (by omega), fun x => ?_⟩
        rw [mem_putT, hk'' x, List.take_succ, hq, List.mem_append, or_assoc]
        simp
      · rintro ε s'' ⟨⟨w4, rfl⟩, fr'', l'', hs'', hll'', hk''⟩
        have := hcl r
        refine hL2 _ _ ⟨⟨_, _, rfl⟩, fr'', l'', hs'', by omega, fun x => ?_⟩
        rw [hk'' x, List.take_length, mem_combL, or_assoc]
        refine or_congr_right ?_
        constructor
        · rintro (⟨h1, h2⟩ | ⟨h1, h2⟩)
          · exact ⟨h1, by omega⟩
          · exact ⟨h1, by omega⟩
        · rintro ⟨h1, h2⟩
          by_cases c : x.length = r
          · exact .inr ⟨h1, c⟩
          · exact .inl ⟨h1, by omega⟩
    · rintro ε s' ⟨⟨z3, z4, rfl⟩, fr', l', hs', hll', hk'⟩
      rw [List.length_range] at hll' hk'
      refine hL _ _ ⟨⟨_, _, _, rfl⟩, fr', l', hs', by omega, fun x => ?_⟩
      rw [hk' x, List.take_succ, hi]
      constructor
      · rintro (⟨g, hg, hx⟩ | ⟨hx, _⟩)
        · exact ⟨g, List.mem_append_left _ hg, hx⟩
        · exact ⟨f, List.mem_append_right _ (by simp), hx⟩
      · rintro ⟨g, hg, hx⟩
        rcases List.mem_append.mp hg with z | z
        · exact .inl ⟨g, z, hx⟩
        · have : g = f := by simpa using z
          rw [this] at hx
          exact .inr ⟨hx, by have := hx.length_le; omega⟩
  · rintro ε s ⟨⟨y2, y3, y4, rfl⟩, fr, l, hs, hll, hk⟩
    refine hN _ _ ?_
    rw [List.take_length] at hk
    walk_at "D"
    exact fg_ret (K p l s hp hs fr fun x => by rw [hk x, mem_facesF])
theorem nodup_combL : ∀ {xs : List Int} (r : Nat), xs.Nodup → (combL xs r).Nodup
  | xs, 0, _ => by rw [combL_zero]; exact List.nodup_cons.mpr ⟨List.not_mem_nil, List.nodup_nil⟩
  | [], r + 1, _ => List.nodup_nil
  | x :: xs, r + 1, h => by
    obtain ⟨h1, h2⟩ := List.nodup_cons.mp h
    rw [combL, List.nodup_append]
    refine ⟨?_, nodup_combL (r + 1) h2, fun a ha b hb e => ?_⟩
    · rw [List.nodup_iff_pairwise_ne, List.pairwise_map]
      exact List.Pairwise.imp (fun hne e => hne (List.cons.inj e).2) (List.nodup_iff_pairwise_ne.mp (nodup_combL r h2))
    · obtain ⟨c, hc, rfl⟩ := List.mem_map.mp ha
      rw [← e] at hb
      exact h1 ((mem_combL.mp hb).1.subset List.mem_cons_self)
def minB (F : List (List Int)) (x : List Int) : Bool := !decide (x ∈ facesF F) && (bordA x).all fun c => decide (c ∈ facesF F)
def lackN (v : Nat) (F : List (List Int)) (n : Nat) : List (List Int) := (List.range n).flatMap fun r => (combL (rangeI v) r).filter (minB F)
theorem lack_succ (v : Nat) (F : List (List Int)) (n : Nat) : lackN v F (n + 1) = lackN v F n ++ (combL (rangeI v) n).filter (minB F) := by
  unfold lackN
  rw [List.range_succ, List.flatMap_append]
  simp
theorem mem_lackN {v : Nat} {F : List (List Int)} {n : Nat} {x : List Int} : x ∈ lackN v F n ↔ (x.Sublist (rangeI v) ∧ x.length < n) ∧ minB F x = true := by
  unfold lackN
  rw [List.mem_flatMap]
  constructor
  · rintro ⟨r, hr, hx⟩
    obtain ⟨h1, h2⟩ := List.mem_filter.mp hx
    obtain ⟨h3, h4⟩ := mem_combL.mp h1
    exact ⟨⟨h3, by rw [h4]; exact List.mem_range.mp hr⟩, h2⟩
  · rintro ⟨⟨h1, h2⟩, h3⟩
    exact ⟨x.length, List.mem_range.mpr h2, List.mem_filter.mpr ⟨mem_combL.mpr ⟨h1, rfl⟩, h3⟩⟩
theorem nodup_rngI (v : Nat) : (rangeI v).Nodup := List.Pairwise.imp (fun h => by omega) (asc_rngV v)
theorem nodup_lackN (v : Nat) (F : List (List Int)) : ∀ n, (lackN v F n).Nodup
  | 0 => List.nodup_nil
  | n + 1 => by
    rw [lack_succ, List.nodup_append]
    refine ⟨nodup_lackN v F n, (nodup_combL n (nodup_rngI v)).sublist List.filter_sublist, fun a ha b hb e => ?_⟩
    have h1 := (mem_lackN.mp ha).1.2
    have h2 := (mem_combL.mp (List.mem_filter.mp hb).1).2
    rw [e, h2] at h1
    exact Nat.lt_irrefl _ h1
theorem len_lackN {v : Nat} (hv : v ≤ 7) (F : List (List Int)) : ∀ n, (lackN v F n).length ≤ 128 * n
  | 0 => Nat.zero_le _
  | n + 1 => by
    rw [lack_succ, List.length_append]
    have h1 := len_lackN hv F n
    have h2 : ((combL (rangeI v) n).filter (minB F)).length ≤ 128 := Nat.le_trans (List.length_filter_le _ _) (Nat.le_trans (len_combL _ n) (Nat.le_trans (Nat.pow_le_pow_right (by decide) (show (rangeI v).length ≤ 7 by rw [List.length_map, List.length_range]; exact hv)) (by decide)))
    omega
theorem lack_min {v : Nat} {F : List (List Int)} {x : List Int} : x ∈ lackN v F (v + 1) ↔ MinNF v F x := by
  rw [mem_lackN]
  unfold minB
  rw [Bool.and_eq_true, Bool.not_eq_true', decide_eq_false_iff_not, List.all_eq_true]
  constructor
  · rintro ⟨⟨h1, _⟩, h2, h3⟩
    exact ⟨(asc_rngV v).sublist h1, fun y hy => mem_rngV.mp (h1.subset hy), h2, fun c hc => of_decide_eq_true (h3 c hc)⟩
  · rintro ⟨h1, h2, h3, h4⟩
    have hs := asc_sub h1 (asc_rngV v) fun y hy => mem_rngV.mpr (h2 y hy)
    refine ⟨⟨hs, ?_⟩, h3, fun c hc => decide_eq_true (h4 c hc)⟩
    have := hs.length_le
    rw [List.length_map, List.length_range] at this
    omega
theorem look_tab {l : List (List Int × DV)} {a : List Int} : ∃ o, dlook (some (.dT (tabD l))) (.d (TI a)) = some o ∧ o.isSome = decide (a ∈ l.map (·.1)) := by
  refine ⟨lookD (tabD l) (a.map Sum.inl), ?_, ?_⟩
  · show (match titems (.d (TI a)) with | some ys => (keyT ys).map fun q => lookD (tabD l) q | none => none) = _
    rw [show titems (.d (TI a)) = some ((a.map PyData.int).map DV.d) from rfl]
    show ((keyT ((a.map PyData.int).map DV.d)).map fun q => lookD (tabD l) q) = _
    rw [keyT_ints]
    rfl
  · unfold lookD
    rw [Option.isSome_map, Bool.eq_iff_iff, List.find?_isSome, decide_eq_true_eq]
    constructor
    · rintro ⟨q, hq, e⟩
      unfold tabD at hq
      obtain ⟨p, hp, rfl⟩ := List.mem_map.mp hq
      have e := of_decide_eq_true e
      exact List.mem_map.mpr ⟨p, hp, inl_inj e⟩
    · intro h
      obtain ⟨p, hp, rfl⟩ := List.mem_map.mp h
      exact ⟨(p.1.map Sum.inl, p.2), List.mem_map.mpr ⟨p, hp, rfl⟩, decide_eq_true rfl⟩
theorem rng_dv (v : Nat) : (List.range v).map (fun (j : Nat) => DV.d (.int (j : Int))) = ((rangeI v).map PyData.int).map DV.d := by
  rw [List.map_map, List.map_map]
  rfl
theorem len_lackN12 {v : Nat} (hv : v ≤ 12) (F : List (List Int)) : ∀ n, (lackN v F n).length ≤ 4096 * n
  | 0 => Nat.zero_le _
  | n + 1 => by
    rw [lack_succ, List.length_append]
    have h1 := len_lackN12 hv F n
    have h2 : ((combL (rangeI v) n).filter (minB F)).length ≤ 4096 := Nat.le_trans (List.length_filter_le _ _) (Nat.le_trans (len_combL _ n) (Nat.le_trans (Nat.pow_le_pow_right (by decide) (show (rangeI v).length ≤ 12 by rw [List.length_map, List.length_range]; exact hv)) (by decide)))
    omega
def sp_least_lacking : SpD := fun xs st Q => ∃ (v : Nat) (F : List (List Int)), xs = [I v, .d (TT F)] ∧ v ≤ 12 ∧ F.length ≤ 200 ∧ (∀ f ∈ F, f.length ≤ 7) ∧
  ∀ (q : Addr) st', st q = none → st' q = some (.lst (((lackN v F (v + 1)).map TI).map .d)) → Le st st' → Q (.r q) st'
theorem len_least_lacking : ∀ xs st Q, sp_least_lacking xs st Q → xs.length = 2 := by rintro xs st Q ⟨v, F, rfl, _⟩; rfl
theorem sem_least_lacking : ∀ xs st Q, sp_least_lacking xs st Q → rd_least_lacking sp_all_faces sp_borders { nx := fun _ st' => Fg Q (.d .none) st', rt := Fg Q } (startD 7 xs) st := by
  rintro xs st Q ⟨v, F, rfl, hv, hl, h7, K⟩
  have e0 : startD 7 [I v, .d (TT F)] = [some (I v), some (.d (TT F)), none, none, none, none, none] := rfl
  rw [e0]
  unfold rd_least_lacking
  refine seq fun N hN => ?_
  walk_at "D"
  refine ⟨F, rfl, hl, h7, fun p l s1 hp hs1 fr1 hk => ?_⟩
  walk_at "D"
  refine ⟨by decide, fun q hq => ⟨by decide, ?_⟩⟩
  rw [show mkT [DV.r p, DV.r q] = DV.t [DV.r p, DV.r q] from rfl]
  refine ⟨rfl, rfl, hN _ _ ?_⟩; clear hN N
  have hpq : p ≠ q := fun e => by rw [← e, hs1] at hq; cases hq
  have hst : st q = none := by
    rw [← fr1 q (Ne.symm hpq)]
    exact hq
  refine seq fun N hN => ?_
  walk_at "D"
  obtain ⟨w, hw⟩ : ∃ w : Nat, (v : Int) + 1 = (w : Int) := ⟨v + 1, by omega⟩
  rw [hw]
  refine ⟨by omega, by omega, ?_⟩
  walk_at "D"
  refine for_byT _ (fun i ε s => (∃ y4 y5 y6, ε = [some (I v), some (.d (TT F)), some (.r p), some (.r q), y4, y5, y6]) ∧ (∀ b, b ≠ q → s b = s1 b) ∧ s q = some (.lst (((lackN v F i).map TI).map .d))) ⟨⟨_, _, _, rfl⟩, fun b hb => up_ne hb, up_same⟩ (fun _ _ _ _ => trivial) ?_ ?_
  · rintro i r ε s hi ⟨⟨y4, y5, y6, rfl⟩, fr, hs⟩ L hL
    obtain ⟨rfl, hiw⟩ := range_some hi
    have hln := len_lackN12 hv F r
    have hr12 : 4096 * r ≤ 4096 * 12 := Nat.mul_le_mul_left _ (by omega)
    walk_at "D"
    simp only [qiCombR]
    walk_at "D"
    refine ⟨⟨by omega, by omega⟩, ⟨by omega, by omega⟩, ?_⟩
    rw [rng_dv, comb_dv]
    have hcl : (combL (rangeI v) r).length ≤ 4096 := Nat.le_trans (len_combL _ r) (Nat.le_trans (Nat.pow_le_pow_right (by decide) (show (rangeI v).length ≤ 12 by rw [List.length_map, List.length_range]; exact hv)) (by decide))
    refine for_byT _ (fun j ε s' => (∃ y5 y6, ε = [some (I v), some (.d (TT F)), some (.r p), some (.r q), some (I (r : Int)), y5, y6]) ∧ (∀ b, b ≠ q → s' b = s1 b) ∧ s' q = some (.lst (((lackN v F r ++ ((combL (rangeI v) r).take j).filter (minB F)).map TI).map .d))) ⟨⟨_, _, rfl⟩, fr, by rw [List.take_zero, List.filter_nil, List.append_nil]; exact hs⟩ (fun _ _ _ _ => trivial) ?_ ?_
    · rintro j c ε s' hj ⟨⟨z5, z6, rfl⟩, fr', hs'⟩ L2 hL2
      have hsp : s' p = some (.dT (tabD l)) := by rw [fr' p hpq]; exact hs1
      have hc12 : c.length ≤ 12 := by
        have := (mem_combL.mp (List.mem_of_getElem? hj)).1.length_le
        rw [List.length_map, List.length_range] at this
        omega
      have hnx : ((combL (rangeI v) r).take (j + 1)).filter (minB F) = ((combL (rangeI v) r).take j).filter (minB F) ++ if minB F c = true then [c] else [] := by
        rw [List.take_succ, hj, List.filter_append]
        congr 1
        show List.filter (minB F) [c] = _
        rw [List.filter_cons, List.filter_nil]
      have hlen2 : (lackN v F r ++ ((combL (rangeI v) r).take j).filter (minB F)).length ≤ 60000 := by
        rw [List.length_append]
        have := List.length_filter_le (minB F) ((combL (rangeI v) r).take j)
        rw [List.length_take] at this
        omega
      obtain ⟨o, e1, e2⟩ := look_tab (l := l) (a := c)
      have e3 : decide (c ∈ l.map (·.1)) = decide (c ∈ facesF F) := by
        rw [Bool.eq_iff_iff, decide_eq_true_eq, decide_eq_true_eq, hk c]
      have stay : minB F c = false → L2 [some (I v), some (.d (TT F)), some (.r p), some (.r q), some (I (r : Int)), some (.d (TI c)), z6] s' := fun hm => by
        refine hL2 _ _ ⟨⟨_, _, rfl⟩, fr', ?_⟩
        rw [hnx, if_neg (by rw [hm]; exact Bool.false_ne_true), List.append_nil]
        exact hs'
      walk_at "D"
      simp only [hsp, e1, e2, e3, if_true]
      by_cases c1 : c ∈ facesF F
      · simp only [c1, decide_true, Bool.not_true, Bool.false_eq_true, if_false]
        exact stay (by unfold minB; simp [c1])
      simp only [c1, decide_false, Bool.not_false, if_true]
      walk_at "D"
      refine ⟨c, rfl, hc12, ?_⟩
      have hb12 : (bordA c).length ≤ 12 := by
        unfold bordA
        rw [List.length_map, List.length_range]
        exact hc12
      walk_at "D"
      refine ⟨by rw [sizeL]; omega, ?_⟩
      rw [TIs_dv]
      refine comp_mapT _ (fun b => Bo (decide (b ∈ facesF F))) trivial _ _ ?_ ?_
      · intro b hb Q1 h
        obtain ⟨o', e1', e2'⟩ := look_tab (l := l) (a := b)
        have e3' : decide (b ∈ l.map (·.1)) = decide (b ∈ facesF F) := by
          rw [Bool.eq_iff_iff, decide_eq_true_eq, decide_eq_true_eq, hk b]
        walk_at "D"
        simp only [hsp, e1', e2', e3', Bool.false_eq_true, if_false]
        exact h
      rw [show ([] : List DV) ++ (bordA c).map (fun b => Bo (decide (b ∈ facesF F))) = (((bordA c).map fun b => decide (b ∈ facesF F)).map PyData.bool).map .d by rw [List.nil_append, List.map_map, List.map_map]; rfl]
      walk_at "D"
      have ea : ((bordA c).map fun b => decide (b ∈ facesF F)).all id = (bordA c).all fun b => decide (b ∈ facesF F) := by rw [List.all_map]; rfl
      rw [ea]
      have em : minB F c = (bordA c).all fun b => decide (b ∈ facesF F) := by
        unfold minB
        rw [decide_eq_false c1]
        rfl
      by_cases c2 : ((bordA c).all fun b => decide (b ∈ facesF F)) = true
      · rw [if_pos c2]
        refine ⟨⟨_, hs'⟩, _, hs', by simp only [List.length_map, sizeL]; omega, hL2 _ _ ⟨⟨_, _, rfl⟩, fun b hb => by rw [up_ne hb]; exact fr' b hb, ?_⟩⟩
        rw [up_same, hnx, if_pos (em.trans c2), ← List.append_assoc]
        simp only [List.map_append, List.map_cons, List.map_nil]
      · rw [if_neg c2]
        exact stay (by rw [em]; simpa using c2)
    · rintro ε s' ⟨⟨z5, z6, rfl⟩, fr', hs'⟩
      rw [List.take_length] at hs'
      refine hL _ _ ⟨⟨_, _, _, rfl⟩, fr', ?_⟩
      rw [lack_succ]
      exact hs'
  · rintro ε s ⟨⟨y4, y5, y6, rfl⟩, fr, hs⟩
    refine hN _ _ ?_
    rw [List.length_range, show w = v + 1 by omega] at hs
    walk_at "D"
    refine fg_ret (K q s hst hs fun a m e => ?_)
    have h1 : a ≠ q := fun z => by rw [z, hst] at e; cases e
    have h2 : a ≠ p := fun z => by rw [z, hp] at e; cases e
    rw [fr a h1, fr1 a h2]
    exact e
end UC
end
section
set_option Elab.async false
set_option linter.all false
set_option maxRecDepth 100000
set_option maxHeartbeats 1000000
open PySem L2 DL RD UC
local macro_rules | `(tactic| walk_at "E") => `(tactic| (try simp only [qAsg, qRet, qDrop, qIfS, qTest, qAndT, qOrT, qNotT, qAndV, qOrV, qNotV, qIf, qOp, qUn, qChain, onB, qv, qc, qgN, qgT, qgCons, qgNil, qCons, qNil, qTup, qLst, qPar, qPar3, qAug, qCB, qCall, qLen, qTupleC, qListC, qMax2, qMin2, qIntC, qSum, qAny, qAll, qIsi, tyName, qAdd, qSub, qMul, qFdiv, qMod, qPow, qI2, qCmpI, qEq, qNe, qLt, qLe, qGt, qGe, qNeg, qIx, qDGet, qDIn, qDPut, qSl, qPart, qNoPart, qNext, qFor, qiSeq, qiRng1, qiRng2, qiZip, qiEnum, qLc, seqSrc, lsrc, titems, litems, sitems, fz, newL, List.getElem?_cons_zero, List.getElem?_cons_succ, List.set_cons_zero, List.set_cons_succ, if_true, if_false, Bool.false_eq_true, ite_true, ite_false, up_same, reduceIte, decide_true, decide_false, true_and, and_true]))
local macro_rules | `(tactic| walk_at "D") => `(tactic| (try simp only [qAsg, qRet, qDrop, qIfS, qTest, qAndT, qOrT, qNotT, qAndV, qOrV, qNotV, qIf, qOp, qUn, qChain, onB, qv, qc, qgN, qgT, qgCons, qgNil, qCons, qNil, qTup, qLst, qPar, qPar3, qAug, qCB, qCall, qLen, qTupleC, qListC, qMax2, qMin2, qIntC, qSum, qAny, qAll, qIsi, tyName, qAdd, qSub, qMul, qFdiv, qMod, qPow, qI2, qCmpI, qEq, qNe, qLt, qLe, qGt, qGe, qNeg, qIx, qDGet, qDIn, qDPut, qSl, qPart, qNoPart, qNext, qFor, qiSeq, qiRng1, qiRng2, qiZip, qiEnum, qLc, seqSrc, lsrc, titems, litems, sitems, fz, newL, List.getElem?_cons_zero, List.getElem?_cons_succ, List.set_cons_zero, List.set_cons_succ, if_true, if_false, Bool.false_eq_true, ite_true, ite_false, up_same, reduceIte, decide_true, decide_false, true_and, and_true, eqv_int, eqv_bool, eqv_TI, eqv_LI, eqv_TT, eqv_LT, eqv_nilL, eqv_nilT, shaped_TI, shaped_LI, shaped_TT, shaped_LT, shaped_int, shaped_bool, shaped_nilL, shaped_nilT, dints_map2, dbools_map2, datas_map, mkT_map, mkT_0, mkT_1, mkT_2, mkT_3, List.length_map, List.length_cons, List.length_nil, List.length_append, List.map_cons, List.map_nil, wipeD, Bool.not_true, Bool.not_false, eq_self, not_true_eq_false, not_false_eq_true, kitB_tt, kitB_ll, kitB_dd, kitB_bb, kitB_ib, kitB_ii, kitB_ss, kitB_tl, kitB_lt, Function.comp, datas, Option.map_some, List.cons_append, List.nil_append, CPow, le_size4, Int.toNat_natCast, rngD0, I_eq, Bo_eq, BS.qSortB, in_IT, in_IL, in_TT, in_TL, qNotN, qIsN, qSortD, qListRg, qDispT, keyX_TI, qGet, qiItems, qLockE, qLockS, qPop, qMaxDf, qLPut, qDNew, qListItems, qListDK, qLc2, qMax1, qMin1, qAppend, qExtend, tints_TI, dv_TI, Option.bind_some, qRetN, atI_0, atI_1, atI_2, mk_appT, mk_snocI, idl, rep_I, Option.map_none, eqv_idl, shaped_idl, Bool.and_self, Bool.true_and, Bool.and_true]))
local macro_rules | `(tactic| walk_at "F") => `(tactic| (try simp only [qAsg, qRet, qDrop, qIfS, qTest, qAndT, qOrT, qNotT, qAndV, qOrV, qNotV, qIf, qOp, qUn, qChain, onB, qv, qc, qgN, qgT, qgCons, qgNil, qCons, qNil, qTup, qLst, qPar, qPar3, qAug, qCB, qCall, qLen, qTupleC, qListC, qMax2, qMin2, qIntC, qSum, qAny, qAll, qIsi, tyName, qAdd, qSub, qMul, qFdiv, qMod, qPow, qI2, qCmpI, qEq, qNe, qLt, qLe, qGt, qGe, qNeg, qIx, qDGet, qDIn, qDPut, qSl, qPart, qNoPart, qNext, qFor, qiRng1, qiRng2, qiZip, qiEnum, qLc, fz, newL, List.getElem?_cons_zero, List.getElem?_cons_succ, List.set_cons_zero, List.set_cons_succ, if_true, if_false, Bool.false_eq_true, ite_true, ite_false, up_same, reduceIte, decide_true, decide_false, true_and, and_true, eqv_int, eqv_bool, eqv_TI, eqv_LI, eqv_TT, eqv_LT, eqv_nilL, eqv_nilT, shaped_TI, shaped_LI, shaped_TT, shaped_LT, shaped_int, shaped_bool, shaped_nilL, shaped_nilT, dints_map2, dbools_map2, datas_map, mkT_map, mkT_0, mkT_1, mkT_2, mkT_3, List.length_map, List.length_cons, List.length_nil, List.length_append, List.map_cons, List.map_nil, wipeD, Bool.not_true, Bool.not_false, eq_self, not_true_eq_false, not_false_eq_true, kitB_tt, kitB_ll, kitB_dd, kitB_bb, kitB_ib, kitB_ii, kitB_ss, kitB_tl, kitB_lt, Function.comp, datas, Option.map_some, List.cons_append, List.nil_append, CPow, le_size4, Int.toNat_natCast, rngD0, I_eq, Bo_eq, BS.qSortB, in_IT, in_IL, in_TT, in_TL, qNotN, qIsN, qSortD, qListRg, qDispT, keyX_TI, qGet, qiItems, qLockE, qLockS, qPop, qMaxDf, qLPut, qDNew, qListItems, qListDK, qLc2, qMax1, qMin1, qAppend, qExtend, tints_TI, dv_TI, Option.bind_some, qRetN, atI_0, atI_1, atI_2, mk_appT, mk_snocI, idl, rep_I, Option.map_none, eqv_idl, shaped_idl, Bool.and_self, Bool.true_and, Bool.and_true]))
namespace UC
open PySem L2 DL RD CpComb
theorem TIs_xV (v : Nat) (b : List Int) : ([] : List DV) ++ (rangeI v).map (fun k => if k ∈ b then I 1 else I 0) = ((xV v b).map PyData.int).map DV.d := by
  unfold xV rangeI
  rw [List.nil_append, List.map_map, List.map_map, List.map_map]
  refine List.map_congr_left fun j _ => ?_
  show (if (j : Int) ∈ b then I 1 else I 0) = DV.d (PyData.int (if (j : Int) ∈ b then 1 else 0))
  split <;> rfl
def sp_product_of_vertices : SpD := fun xs st Q => ∃ (v : Nat) (b : List Int), xs = [I v, .d (TI b)] ∧ v ≤ 1000 ∧ Q (.d (TI (xV v b))) st
theorem len_product_of_vertices : ∀ xs st Q, sp_product_of_vertices xs st Q → xs.length = 2 := by rintro xs st Q ⟨v, b, rfl, _⟩; rfl
theorem sem_product_of_vertices : ∀ xs st Q, sp_product_of_vertices xs st Q → rd_product_of_vertices { nx := fun _ st' => Fg Q (.d .none) st', rt := Fg Q } (startD 3 xs) st := by
  rintro xs st Q ⟨v, b, rfl, hv, K⟩
  have e0 : startD 3 [I v, .d (TI b)] = [some (I v), some (.d (TI b)), none] := rfl
  rw [e0]
  unfold rd_product_of_vertices
  walk_at "D"
  refine ⟨by omega, by omega, by rw [List.length_range, sizeL]; omega, ?_⟩
  rw [show (List.range v).map (fun (j : Nat) => DV.d (.int (j : Int))) = (rangeI v).map fun k => I k by unfold rangeI; rw [List.map_map]; rfl]
  refine comp_mapT _ (fun k => if k ∈ b then I 1 else I 0) trivial _ _ ?_ ?_
  · intro y hy Q1 h
    walk_at "D"
    by_cases c : y ∈ b
    · simp only [c, decide_true, if_true] at h ⊢
      exact h
    · simp only [c, decide_false, Bool.false_eq_true, if_false] at h ⊢
      exact h
  · rw [TIs_xV]
    walk_at "D"
    exact fg_ret K
def sp_ideal_of_complex : SpD := fun xs st Q => ∃ (v : Nat) (F : List (List Int)), xs = [I v, .d (TT F)] ∧ 1 ≤ v ∧ v ≤ 7 ∧ F.length ≤ 200 ∧ (∀ f ∈ F, f.length ≤ 7) ∧ AscL F ∧ (srG v F).length ≤ 60 ∧ Q (.d (idl v (srG v F))) st
def outB (n : Nat) (G : List (List Int)) (a : List Int) : Bool := !inL G (xV n a)
def sizeC (n : Nat) (G : List (List Int)) (found : List (List Int)) (i : Nat) : List (List Int) := ((combL (rangeI n) (n - i)).filter (outB n G)).foldl (stepG ((n - i : Nat) : Int)) found
def cxL (n : Nat) (G : List (List Int)) : List (List Int) := (List.range (n + 1)).foldl (sizeC n G) []
theorem cxL_ok {n : Nat} {G : List (List Int)} : (cxL n G).Nodup ∧ sortU (cxL n G) = cxI n G := by
  have key : ∀ k, k ≤ n + 1 → GInv (cxS n G) ((List.range k).foldl (sizeC n G) []) ∧ ∀ b ∈ cxS n G, n < b.length + k → ∃ c ∈ (List.range k).foldl (sizeC n G) [], insB b c = true := by
    intro k
    induction k with
    | zero => exact fun _ => ⟨⟨fun _ h => (nomatch h), List.nodup_nil⟩, fun b hb hs => by
        have := asc_long (mem_cxS.mp hb).1 (mem_cxS.mp hb).2.1
        omega⟩
    | succ k ih =>
      intro hk
      obtain ⟨g, up⟩ := ih (by omega)
      rw [List.range_succ, List.foldl_append]
      generalize (List.range k).foldl (sizeC n G) [] = found at g up
      show GInv (cxS n G) (sizeC n G found k) ∧ ∀ b ∈ cxS n G, n < b.length + (k + 1) → ∃ c ∈ sizeC n G found k, insB b c = true
      unfold sizeC
      have hev : ∀ a ∈ (combL (rangeI n) (n - k)).filter (outB n G), a ∈ cxS n G := fun a ha => by
        obtain ⟨h1, h2⟩ := List.mem_filter.mp ha
        exact List.mem_filter.mpr ⟨mem_subs.mpr (mem_combL.mp h1).1, h2⟩
      obtain ⟨g2, k2, u2⟩ := ginv_size asc_cxS (s := n - k) _ found hev g fun b hb hs => up b hb (by omega)
      refine ⟨g2, fun b hb hs => ?_⟩
      by_cases c : b.length = n - k
      · exact u2 b (List.mem_filter.mpr ⟨mem_combL.mpr ⟨mem_subs.mp (List.mem_filter.mp hb).1, c⟩, (List.mem_filter.mp hb).2⟩) c
      · obtain ⟨c, hc, hi⟩ := up b hb (by omega)
        exact ⟨c, k2 c hc, hi⟩
  obtain ⟨g, up⟩ := key (n + 1) (Nat.le_refl _)
  refine ⟨g.nd, sortU_eq (ris_maxF _) fun x => ⟨g.mem x, fun hx => ?_⟩⟩
  obtain ⟨m1, m2⟩ := mem_maxF.mp hx
  obtain ⟨c, hc, hi⟩ := up x m1 (by omega)
  rw [← m2 c (mem_maxF.mp (g.mem c hc)).1 hi]
  exact hc
theorem len_comb7 {n : Nat} (hn : n ≤ 7) (r : Nat) : (combL (rangeI n) r).length ≤ 128 := Nat.le_trans (len_combL _ r) (Nat.le_trans (Nat.pow_le_pow_right (by decide) (show (rangeI n).length ≤ 7 by rw [List.length_map, List.length_range]; exact hn)) (by decide))
theorem len_sizeC {n : Nat} (hn : n ≤ 7) (G : List (List Int)) : ∀ k, ((List.range k).foldl (sizeC n G) []).length ≤ 128 * k
  | 0 => Nat.zero_le _
  | k + 1 => by
    rw [List.range_succ, List.foldl_append]
    have ih := len_sizeC hn G k
    generalize (List.range k).foldl (sizeC n G) [] = found at ih
    show (sizeC n G found k).length ≤ _
    unfold sizeC
    have h1 := len_steps ((n - k : Nat) : Int) ((combL (rangeI n) (n - k)).filter (outB n G)) found
    have h2 := List.length_filter_le (outB n G) (combL (rangeI n) (n - k))
    have h3 := len_comb7 hn (n - k)
    omega
theorem out_any {n : Nat} {G : List (List Int)} (hG : ∀ g ∈ G, Unit1 n g) (a : List Int) : ((G.map suppL).any fun s => insB s a) = inL G (xV n a) := by
  rw [Bool.eq_iff_iff, List.any_eq_true, inL_iff]
  constructor
  · rintro ⟨s, hs, h⟩
    obtain ⟨g, hg, rfl⟩ := List.mem_map.mp hs
    refine ⟨g, hg, ?_⟩
    rw [← xV_supp (hG g hg)]
    exact (div_xV (low_supp (hG g hg).1)).mpr h
  · rintro ⟨g, hg, h⟩
    rw [← xV_supp (hG g hg)] at h
    exact ⟨_, List.mem_map.mpr ⟨g, hg, rfl⟩, (div_xV (low_supp (hG g hg).1)).mp h⟩
def sp_complex_of_ideal : SpD := fun xs st Q => ∃ (n : Nat) (G : List (List Int)), xs = [.d (idl n G)] ∧ 1 ≤ n ∧ n ≤ 7 ∧ G.length ≤ 200 ∧ (∀ g ∈ G, Unit1 n g) ∧ Q (.d (TT (cxI n G))) st
end UC
end
section
set_option Elab.async false
set_option linter.all false
set_option maxRecDepth 100000
set_option maxHeartbeats 1000000
open PySem L2 DL RD UC
local macro_rules | `(tactic| walk_at "E") => `(tactic| (try simp only [qAsg, qRet, qDrop, qIfS, qTest, qAndT, qOrT, qNotT, qAndV, qOrV, qNotV, qIf, qOp, qUn, qChain, onB, qv, qc, qgN, qgT, qgCons, qgNil, qCons, qNil, qTup, qLst, qPar, qPar3, qAug, qCB, qCall, qLen, qTupleC, qListC, qMax2, qMin2, qIntC, qSum, qAny, qAll, qIsi, tyName, qAdd, qSub, qMul, qFdiv, qMod, qPow, qI2, qCmpI, qEq, qNe, qLt, qLe, qGt, qGe, qNeg, qIx, qDGet, qDIn, qDPut, qSl, qPart, qNoPart, qNext, qFor, qiSeq, qiRng1, qiRng2, qiZip, qiEnum, qLc, seqSrc, lsrc, titems, litems, sitems, fz, newL, List.getElem?_cons_zero, List.getElem?_cons_succ, List.set_cons_zero, List.set_cons_succ, if_true, if_false, Bool.false_eq_true, ite_true, ite_false, up_same, reduceIte, decide_true, decide_false, true_and, and_true]))
local macro_rules | `(tactic| walk_at "D") => `(tactic| (try simp only [qAsg, qRet, qDrop, qIfS, qTest, qAndT, qOrT, qNotT, qAndV, qOrV, qNotV, qIf, qOp, qUn, qChain, onB, qv, qc, qgN, qgT, qgCons, qgNil, qCons, qNil, qTup, qLst, qPar, qPar3, qAug, qCB, qCall, qLen, qTupleC, qListC, qMax2, qMin2, qIntC, qSum, qAny, qAll, qIsi, tyName, qAdd, qSub, qMul, qFdiv, qMod, qPow, qI2, qCmpI, qEq, qNe, qLt, qLe, qGt, qGe, qNeg, qIx, qDGet, qDIn, qDPut, qSl, qPart, qNoPart, qNext, qFor, qiSeq, qiRng1, qiRng2, qiZip, qiEnum, qLc, seqSrc, lsrc, titems, litems, sitems, fz, newL, List.getElem?_cons_zero, List.getElem?_cons_succ, List.set_cons_zero, List.set_cons_succ, if_true, if_false, Bool.false_eq_true, ite_true, ite_false, up_same, reduceIte, decide_true, decide_false, true_and, and_true, eqv_int, eqv_bool, eqv_TI, eqv_LI, eqv_TT, eqv_LT, eqv_nilL, eqv_nilT, shaped_TI, shaped_LI, shaped_TT, shaped_LT, shaped_int, shaped_bool, shaped_nilL, shaped_nilT, dints_map2, dbools_map2, datas_map, mkT_map, mkT_0, mkT_1, mkT_2, mkT_3, List.length_map, List.length_cons, List.length_nil, List.length_append, List.map_cons, List.map_nil, wipeD, Bool.not_true, Bool.not_false, eq_self, not_true_eq_false, not_false_eq_true, kitB_tt, kitB_ll, kitB_dd, kitB_bb, kitB_ib, kitB_ii, kitB_ss, kitB_tl, kitB_lt, Function.comp, datas, Option.map_some, List.cons_append, List.nil_append, CPow, le_size4, Int.toNat_natCast, rngD0, I_eq, Bo_eq, BS.qSortB, in_IT, in_IL, in_TT, in_TL, qNotN, qIsN, qSortD, qListRg, qDispT, keyX_TI, qGet, qiItems, qLockE, qLockS, qPop, qMaxDf, qLPut, qDNew, qListItems, qListDK, qLc2, qMax1, qMin1, qAppend, qExtend, tints_TI, dv_TI, Option.bind_some, qRetN, atI_0, atI_1, atI_2, mk_appT, mk_snocI, idl, rep_I, Option.map_none, eqv_idl, shaped_idl, Bool.and_self, Bool.true_and, Bool.and_true]))
local macro_rules | `(tactic| walk_at "F") => `(tactic| (try simp only [qAsg, qRet, qDrop, qIfS, qTest, qAndT, qOrT, qNotT, qAndV, qOrV, qNotV, qIf, qOp, qUn, qChain, onB, qv, qc, qgN, qgT, qgCons, qgNil, qCons, qNil, qTup, qLst, qPar, qPar3, qAug, qCB, qCall, qLen, qTupleC, qListC, qMax2, qMin2, qIntC, qSum, qAny, qAll, qIsi, tyName, qAdd, qSub, qMul, qFdiv, qMod, qPow, qI2, qCmpI, qEq, qNe, qLt, qLe, qGt, qGe, qNeg, qIx, qDGet, qDIn, qDPut, qSl, qPart, qNoPart, qNext, qFor, qiRng1, qiRng2, qiZip, qiEnum, qLc, fz, newL, List.getElem?_cons_zero, List.getElem?_cons_succ, List.set_cons_zero, List.set_cons_succ, if_true, if_false, Bool.false_eq_true, ite_true, ite_false, up_same, reduceIte, decide_true, decide_false, true_and, and_true, eqv_int, eqv_bool, eqv_TI, eqv_LI, eqv_TT, eqv_LT, eqv_nilL, eqv_nilT, shaped_TI, shaped_LI, shaped_TT, shaped_LT, shaped_int, shaped_bool, shaped_nilL, shaped_nilT, dints_map2, dbools_map2, datas_map, mkT_map, mkT_0, mkT_1, mkT_2, mkT_3, List.length_map, List.length_cons, List.length_nil, List.length_append, List.map_cons, List.map_nil, wipeD, Bool.not_true, Bool.not_false, eq_self, not_true_eq_false, not_false_eq_true, kitB_tt, kitB_ll, kitB_dd, kitB_bb, kitB_ib, kitB_ii, kitB_ss, kitB_tl, kitB_lt, Function.comp, datas, Option.map_some, List.cons_append, List.nil_append, CPow, le_size4, Int.toNat_natCast, rngD0, I_eq, Bo_eq, BS.qSortB, in_IT, in_IL, in_TT, in_TL, qNotN, qIsN, qSortD, qListRg, qDispT, keyX_TI, qGet, qiItems, qLockE, qLockS, qPop, qMaxDf, qLPut, qDNew, qListItems, qListDK, qLc2, qMax1, qMin1, qAppend, qExtend, tints_TI, dv_TI, Option.bind_some, qRetN, atI_0, atI_1, atI_2, mk_appT, mk_snocI, idl, rep_I, Option.map_none, eqv_idl, shaped_idl, Bool.and_self, Bool.true_and, Bool.and_true]))
namespace UC
open PySem L2 DL RD
def big (m : List Int) : Bool := m.any fun e => decide (60 < e)
/-- what made tells of some monomials: their ideal, or the error's name -/
def madeE (ts : List (List Int)) : Except Str (List (List Int)) := if 60 < (minL ts).length then .error "TooMany" else if (minL ts).any big = true then .error "TooGreat" else .ok (minL ts)
def tellE (n : Nat) (r : Except Str (List (List Int))) (W : XWc) (Q : DV → Sto → Prop) (st : Sto) : Prop := match r with
  | .ok g => Q (.d (idl n g)) st
  | .error x => W x [("limit", I 60)] st
def sp_made_x : XWc → SpD := fun W xs st Q => ∃ (x : DV) (ts : List (List Int)) (n : Nat) (w : Int), xs = [I n, x] ∧ sitems st x = some ((ts.map TI).map .d) ∧ OkS n w ts ∧ tellE n (madeE ts) W Q st
theorem len_made_x : ∀ W xs st Q, sp_made_x W xs st Q → xs.length = 2 := by rintro W xs st Q ⟨a, ts, n, w, rfl, _⟩; rfl
theorem big_max {a : Int} {r : List Int} : big (a :: r) = decide (60 < r.foldl max a) := by
  unfold big
  by_cases h : 60 < r.foldl max a
  · rw [decide_eq_true h]
    obtain ⟨x, hx, hb⟩ : ∃ x ∈ a :: r, 60 < x := by
      apply Classical.byContradiction
      intro hn
      have : r.foldl max a ≤ 60 := foldl_max_le r a (Int.not_lt.mp fun z => hn ⟨a, List.mem_cons_self, z⟩) fun x hx => Int.not_lt.mp fun z => hn ⟨x, List.mem_cons_of_mem _ hx, z⟩
      omega
    exact List.any_eq_true.mpr ⟨x, hx, decide_eq_true hb⟩
  · rw [decide_eq_false h]
    refine Bool.eq_false_iff.mpr fun z => ?_
    obtain ⟨x, hx, hb⟩ := List.any_eq_true.mp z
    have hb := of_decide_eq_true hb
    have g := foldl_max_ge r a
    rcases List.mem_cons.mp hx with e | e
    · subst e; have := g.1; omega
    · have := g.2 x e; omega
theorem sem_made_x : ∀ W xs st Q, sp_made_x W xs st Q → rd_made_x (fun x kvs _ st' => FgX W x kvs st') sp_least_ones { nx := fun _ st' => Fg Q (.d .none) st', rt := Fg Q } (startD 4 xs) st := by
  rintro W xs st Q ⟨x, ts, n, w, rfl, hx, ok, K⟩
  have e0 : startD 4 [I n, x] = [some (I n), some x, none, none] := rfl
  rw [e0]
  unfold rd_made_x
  refine seq fun N hN => ?_
  walk_at "D"
  refine ⟨x, ts, n, w, rfl, hx, ok, fun p s hp hs fr => hN _ _ ?_⟩; clear hN N
  have hle : Le st s := le_up hp fr
  refine seq fun N hN => ?_
  walk_at "D"
  simp only [hs]
  walk_at "D"
  unfold madeE at K
  by_cases h60 : 60 < (minL ts).length
  · rw [if_pos h60] at K
    have hyes : (60 : Int) < ((minL ts).length : Int) := by omega
    simp only [hyes, decide_true]
    walk_at "D"
    simp only [qRaise]
    walk_at "D"
    exact ⟨by decide, st, hle, K⟩
  rw [if_neg h60] at K
  have hno : ¬ (60 : Int) < ((minL ts).length : Int) := by omega
  simp only [hno, decide_false]
  walk_at "D"
  refine hN _ _ ?_; clear hN N
  refine seq fun N hN => ?_
  walk_at "D"
  simp only [hs]
  rw [List.map_map]
  refine for_byT _ (fun i ε s' => s' = s ∧ (∃ y, ε = [some (I n), some x, some (.r p), y]) ∧ ∀ m ∈ (minL ts).take i, big m = false) ⟨rfl, ⟨none, rfl⟩, fun m hm => by simp at hm⟩ (fun _ _ s' h => by rw [h.1, hs, List.map_map]) ?_ ?_
  · rintro i m ε s' hm ⟨rfl, ⟨y, rfl⟩, hall⟩ L hL
    have hmem := List.mem_of_getElem? hm
    have hmon := ok.2.2.2 m (min_sub m hmem)
    cases m with
    | nil => have := hmon.1; have := ok.1; simp at *; omega
    | cons a r =>
      walk_at "D"
      have e1 : dints (DV.d (.int a) :: List.map DV.d (List.map PyData.int r)) = some (a :: r) := dints_map2 (a :: r)
      simp only [e1]
      walk_at "D"
      by_cases hb : 60 < r.foldl max a
      · simp only [hb, decide_true]
        walk_at "D"
        simp only [qRaise]
        walk_at "D"
        rw [if_pos (List.any_eq_true.mpr ⟨a :: r, hmem, by rw [big_max, decide_eq_true hb]⟩)] at K
        exact ⟨by decide, st, hle, K⟩
      · simp only [hb, decide_false]
        walk_at "D"
        refine hL _ _ ⟨rfl, ⟨_, rfl⟩, fun m' hm' => ?_⟩
        rw [List.take_add_one, hm] at hm'
        rcases List.mem_append.mp hm' with z | z
        · exact hall m' z
        · simp at z
          subst z
          rw [big_max, decide_eq_false hb]
  · rintro ε s' ⟨rfl, ⟨y, rfl⟩, hall⟩
    refine hN _ _ ?_
    walk_at "D"
    simp only [hs]
    walk_at "D"
    rw [List.take_length] at hall
    rw [if_neg (fun z => by
      obtain ⟨m, hm, hb⟩ := List.any_eq_true.mp z
      rw [hall m hm] at hb
      cases hb)] at K
    exact ⟨by decide, fg_le hle K⟩
end UC
end
section
set_option Elab.async false
set_option linter.all false
set_option maxRecDepth 100000
set_option maxHeartbeats 1000000
open PySem L2 DL RD UC
local macro_rules | `(tactic| walk_at "E") => `(tactic| (try simp only [qAsg, qRet, qDrop, qIfS, qTest, qAndT, qOrT, qNotT, qAndV, qOrV, qNotV, qIf, qOp, qUn, qChain, onB, qv, qc, qgN, qgT, qgCons, qgNil, qCons, qNil, qTup, qLst, qPar, qPar3, qAug, qCB, qCall, qLen, qTupleC, qListC, qMax2, qMin2, qIntC, qSum, qAny, qAll, qIsi, tyName, qAdd, qSub, qMul, qFdiv, qMod, qPow, qI2, qCmpI, qEq, qNe, qLt, qLe, qGt, qGe, qNeg, qIx, qDGet, qDIn, qDPut, qSl, qPart, qNoPart, qNext, qFor, qiSeq, qiRng1, qiRng2, qiZip, qiEnum, qLc, seqSrc, lsrc, titems, litems, sitems, fz, newL, List.getElem?_cons_zero, List.getElem?_cons_succ, List.set_cons_zero, List.set_cons_succ, if_true, if_false, Bool.false_eq_true, ite_true, ite_false, up_same, reduceIte, decide_true, decide_false, true_and, and_true]))
local macro_rules | `(tactic| walk_at "D") => `(tactic| (try simp only [qAsg, qRet, qDrop, qIfS, qTest, qAndT, qOrT, qNotT, qAndV, qOrV, qNotV, qIf, qOp, qUn, qChain, onB, qv, qc, qgN, qgT, qgCons, qgNil, qCons, qNil, qTup, qLst, qPar, qPar3, qAug, qCB, qCall, qLen, qTupleC, qListC, qMax2, qMin2, qIntC, qSum, qAny, qAll, qIsi, tyName, qAdd, qSub, qMul, qFdiv, qMod, qPow, qI2, qCmpI, qEq, qNe, qLt, qLe, qGt, qGe, qNeg, qIx, qDGet, qDIn, qDPut, qSl, qPart, qNoPart, qNext, qFor, qiSeq, qiRng1, qiRng2, qiZip, qiEnum, qLc, seqSrc, lsrc, titems, litems, sitems, fz, newL, List.getElem?_cons_zero, List.getElem?_cons_succ, List.set_cons_zero, List.set_cons_succ, if_true, if_false, Bool.false_eq_true, ite_true, ite_false, up_same, reduceIte, decide_true, decide_false, true_and, and_true, eqv_int, eqv_bool, eqv_TI, eqv_LI, eqv_TT, eqv_LT, eqv_nilL, eqv_nilT, shaped_TI, shaped_LI, shaped_TT, shaped_LT, shaped_int, shaped_bool, shaped_nilL, shaped_nilT, dints_map2, dbools_map2, datas_map, mkT_map, mkT_0, mkT_1, mkT_2, mkT_3, List.length_map, List.length_cons, List.length_nil, List.length_append, List.map_cons, List.map_nil, wipeD, Bool.not_true, Bool.not_false, eq_self, not_true_eq_false, not_false_eq_true, kitB_tt, kitB_ll, kitB_dd, kitB_bb, kitB_ib, kitB_ii, kitB_ss, kitB_tl, kitB_lt, Function.comp, datas, Option.map_some, List.cons_append, List.nil_append, CPow, le_size4, Int.toNat_natCast, rngD0, I_eq, Bo_eq, BS.qSortB, in_IT, in_IL, in_TT, in_TL, qNotN, qIsN, qSortD, qListRg, qDispT, keyX_TI, qGet, qiItems, qLockE, qLockS, qPop, qMaxDf, qLPut, qDNew, qListItems, qListDK, qLc2, qMax1, qMin1, qAppend, qExtend, tints_TI, dv_TI, Option.bind_some, qRetN, atI_0, atI_1, atI_2, mk_appT, mk_snocI, idl, rep_I, Option.map_none, eqv_idl, shaped_idl, Bool.and_self, Bool.true_and, Bool.and_true]))
local macro_rules | `(tactic| walk_at "F") => `(tactic| (try simp only [qAsg, qRet, qDrop, qIfS, qTest, qAndT, qOrT, qNotT, qAndV, qOrV, qNotV, qIf, qOp, qUn, qChain, onB, qv, qc, qgN, qgT, qgCons, qgNil, qCons, qNil, qTup, qLst, qPar, qPar3, qAug, qCB, qCall, qLen, qTupleC, qListC, qMax2, qMin2, qIntC, qSum, qAny, qAll, qIsi, tyName, qAdd, qSub, qMul, qFdiv, qMod, qPow, qI2, qCmpI, qEq, qNe, qLt, qLe, qGt, qGe, qNeg, qIx, qDGet, qDIn, qDPut, qSl, qPart, qNoPart, qNext, qFor, qiRng1, qiRng2, qiZip, qiEnum, qLc, fz, newL, List.getElem?_cons_zero, List.getElem?_cons_succ, List.set_cons_zero, List.set_cons_succ, if_true, if_false, Bool.false_eq_true, ite_true, ite_false, up_same, reduceIte, decide_true, decide_false, true_and, and_true, eqv_int, eqv_bool, eqv_TI, eqv_LI, eqv_TT, eqv_LT, eqv_nilL, eqv_nilT, shaped_TI, shaped_LI, shaped_TT, shaped_LT, shaped_int, shaped_bool, shaped_nilL, shaped_nilT, dints_map2, dbools_map2, datas_map, mkT_map, mkT_0, mkT_1, mkT_2, mkT_3, List.length_map, List.length_cons, List.length_nil, List.length_append, List.map_cons, List.map_nil, wipeD, Bool.not_true, Bool.not_false, eq_self, not_true_eq_false, not_false_eq_true, kitB_tt, kitB_ll, kitB_dd, kitB_bb, kitB_ib, kitB_ii, kitB_ss, kitB_tl, kitB_lt, Function.comp, datas, Option.map_some, List.cons_append, List.nil_append, CPow, le_size4, Int.toNat_natCast, rngD0, I_eq, Bo_eq, BS.qSortB, in_IT, in_IL, in_TT, in_TL, qNotN, qIsN, qSortD, qListRg, qDispT, keyX_TI, qGet, qiItems, qLockE, qLockS, qPop, qMaxDf, qLPut, qDNew, qListItems, qListDK, qLc2, qMax1, qMin1, qAppend, qExtend, tints_TI, dv_TI, Option.bind_some, qRetN, atI_0, atI_1, atI_2, mk_appT, mk_snocI, idl, rep_I, Option.map_none, eqv_idl, shaped_idl, Bool.and_self, Bool.true_and, Bool.and_true]))
namespace UC
open PySem L2 DL RD
/-- what a call tells: its value, or its error and the error's number -/
abbrev ExT := Except (Str × Int) PyData
def fldOf (x : Str) : Str := if x = "TooMany" ∨ x = "TooGreat" then "limit" else "place"
theorem fld1 : fldOf (PySem.Str.ofString "TooMany") = PySem.Str.ofString "limit" := if_pos (by decide)
def tellL (r : ExT) (W : XWc) (Q : DV → Sto → Prop) (st : Sto) : Prop := match r with
  | .ok v => Q (.d v) st
  | .error (x, i) => W x [(fldOf x, I i)] st
end UC
end
section
set_option Elab.async false
set_option linter.all false
set_option maxRecDepth 100000
set_option maxHeartbeats 2000000
namespace UC
open PySem L2 DL
end UC
end
section
set_option Elab.async false
set_option linter.all false
set_option maxRecDepth 100000
set_option maxHeartbeats 2000000
namespace UC
open PySem L2 DL
theorem big_mon {n : Nat} {m : List Int} (h : Mon n 60 m) : big m = false := by
  unfold big
  refine List.any_eq_false.mpr fun x hx => ?_
  have := (h.2 x hx).2
  simp
  omega
end UC
end
section
set_option Elab.async false
set_option linter.all false
set_option maxRecDepth 100000
set_option maxHeartbeats 4000000
namespace DL
open PySem PySem.Spec L2 PyProof.Rows EX
variable [tB : Tb]
/-- the fields of an error: in its dict, or none -/
def XD (K : PySem.W.Frag) (F H : Hp) (d : Option Addr) (kvs : List (Str × DV)) : Prop := match d with
  | some dd => ∃ ws, H dd = some (.xd ws) ∧ PX K F ws kvs
  | none => kvs = []
/-- slots whose values are known -/
def Has (ks : List (Nat × V)) (σ : L2.St) : Prop := ∀ p ∈ ks, σ[p.1]? = some (some p.2)
/-- a suite that returns: what it gives, told of the error; ks: what stands in some slots -/
def SuR (K : PySem.W.Frag) (X : Cx) (suite : List Stmt) (ks : List (Nat × V)) (d : Option Addr) (res : List (Str × DV) → Option DV) : Prop := ∃ ts, PSs X suite ts ∧ ∀ (F : Hp) (σ : L2.St) (H : Hp) (kvs : List (Str × DV)) (y : DV) (D : Ends), Has ks σ → XD K F H d kvs → res kvs = some y → (∀ v, RV K F v y → D.rt v H) → ts D σ H
def qTryR (ok : Str → Bool) (tb : XWe → TDs) (rest : TDs) (res : Str → List (Str × DV) → Option DV) : TDs := fun D ε st =>
  tb (fun x kvs _ s1 => ok x = true ∧ ∃ y, res x kvs = some y ∧ D.rt y s1) { D with nx := rest D } ε st
section
variable [gR : Gr] {P : Program} {w : World} {K : PySem.W.Frag} {mg : Str → Option Value} {base : Heap} {X : Cx} {N : List Str} {sc fs : Scope} {k : Nat}
theorem ds_tryR {body rest : List Stmt} {s0 : Stmt} {ss : List Stmt} {xn n : Str} {i : Nat} {ok : Str → Bool} {tb : XWe → TDs} {tr : TDs} {res : Str → List (Str × DV) → Option DV} {np hpos pos : Pos} (c : Cok P w K mg base X N sc fs k) (hst : Stands X)
    (hg : glB sc xn = true) (hc : Takers K mg xn ok) (hi : locB N sc fs i n = true) (hln : sc.names.lookup n = some .local)
    (hb : ∀ [G : Gr] (W : XWe) (pn : List (Addr × Obj)) (xe : Value → Shared → Prop), (∀ F H st, G.gr F H st → gR.gr F H st) → Cok P w K mg base (X.tr pn xe) N sc fs k → Lx K mg W (X.tr pn xe) → DSs (X.tr pn xe) body (tb W))
    (hr : DSs X rest tr) (hx : ∀ (x : Str) (C a : Addr) (d : Option Addr) (oe : Obj) (pn : List (Addr × Obj)), mg x = some (.ref C) → ok x = true → (bareN x = false → ∃ dd, d = some dd) → Zc (.ref C) d oe → (∃ vs, oe.data = .fields vs) → SuR X.K (X.suite a ((a, oe) :: pn)) (s0 :: ss) [(i, .ref a)] d (res x)) :
    DSs X (.Try body [.ExceptHandler (some (.Name xn np)) (some n) (s0 :: ss) hpos] [] [] pos :: rest) (qTryR ok tb tr res) := by
  refine ⟨⟨fun D σ H => ∃ F ε st Dd, Rs X.K F H st ∧ RE X.K F σ ε ∧ qTryR ok tb tr res Dd ε st ∧ KS X.K F H st Dd D, ⟨fun pins s σ H D I h => ?_⟩, fun F σ H ε st Dd D R E h kk => ⟨F, ε, st, Dd, R, E, h, kk⟩⟩⟩
  obtain ⟨F, ε, st, Dd, R, E, h, kk⟩ := h
  obtain ⟨hs, hf⟩ := hst
  obtain ⟨hX1, hX2, hX3, hX4, hX5, hX6, _⟩ := id c
  have ok0 := I.ok
  have hfr : X.A.frames = some (X.env :: X.outer) := by rw [ok0.frames, hs]
  obtain ⟨ni, nloc, nfn⟩ := loc_of c hi
  have kn : X.env.kindOf n = some .local := by rw [kindOf_S c]; exact hln
  have g := gl_of c hg
  obtain ⟨Cn, hCn, hCe⟩ := hc
  -- what comes behind the clause
  let POST : Flow → Shared → Prop := fun f s' => match f with | .next => wpAny (model X.prog X.w) X.A (execs rest X.env) (SP X pins D) X.xe s' | f => SP X pins D f s'
  let hdl : ExceptHandler := .ExceptHandler (some (.Name xn np)) (some n) (s0 :: ss) hpos
  let xe' : Value → Shared → Prop := fun e s₁ => wpAny (model X.prog X.w) X.A (noteFrame e X.env) (fun _ s₂ => wpAny (model X.prog X.w) X.A (setFlight e none) (fun _ s₃ => wpAny (model X.prog X.w) X.A (handleBy e X.env [hdl]) POST X.xe s₃) X.xe s₂) X.xe s₁
  let Wd : XWe := fun x kvs ε1 s1 => ok x = true ∧ ∃ y, res x kvs = some y ∧ Dd.rt y s1
  let W' : WX := fun cls d σ' H' => ∃ x C kvs F' ε' s', cls = .ref C ∧ mg x = some (.ref C) ∧ (bareN x = false → ∃ dd, d = some dd) ∧ XD X.K F' H' d kvs ∧ Rs0 X.K F' H' s' ∧ Step F H st F' H' s' ∧ RE X.K F' σ' ε' ∧ Wd x kvs ε' s'
  have tk' : Takes (X.tr (X.pn ++ pins) xe') W' := fun u s' xx => by
    obtain ⟨a, B, sI, pins', σ', H', cls, d, rfl, J', nb, up', sky, na, os', ag, x, C, kvs, F', ε', s2, rfl, hm, hbr, hxd, R0, t0, RE0, okx, w⟩ := xx
    have J : Inv X pins σ' H' sI := J'.ofTry ok0
    have sky' : Sky B (X.env :: X.outer) a (Zc (.ref C) d) X.env.locals s'.heap := by rw [← hs]; exact sky
    show wpAny (model X.prog X.w) X.A (noteFrame (.ref a) X.env) _ _ _
    refine Sky.land Zc.steady hfr hf sky' fun h3 fl3 up3 => ?_
    have J3 : Inv X pins σ' H' { s' with heap := h3 } := J.landed nb fl3.1 (up'.trans up3) os' ag
    obtain ⟨oe3, vs3, he3, hz3, hd3⟩ := fl3.there
    have nfr : a ∉ frs (X.env :: X.outer) := fun hm' => by
      obtain ⟨_, o', e', hnf⟩ := fl3.2.2.1.mem hm'
      rw [he3] at e'; cases e'
      exact hnf _ hd3
    have nL : a ≠ X.env.locals := fun z => nfr (List.mem_filterMap.mpr ⟨X.env, List.mem_cons_self, by rw [hf, z]⟩)
    have nF : a ∉ X.fs := fun hm' => by
      obtain ⟨e, he, q⟩ := List.mem_filterMap.mp hm'
      exact nfr (List.mem_filterMap.mpr ⟨e, List.mem_cons_of_mem _ he, q⟩)
    have S3 := J3.suite he3 hd3 na nL nF
    refine wpAny_handleBy_cons (codeAny_handlers_test ?_) (by intro q; cases q)
    have LT : PySem.W.Looks (model X.prog X.w) h3 (typeOf (.ref a)) (.ref C) := fun A Q E s k q => wpAny_typeOf_ref (k _ _ he3) (by rw [hz3.1]; exact q)
    have LM := PySem.W.exm_one (M := model X.prog X.w) (J3.kIn) LT (by rw [hX3]; exact hCe x C okx hm)
    refine ld_glob (X := X.suite a ((a, oe3) :: (X.pn ++ pins))) S3 g.1 (by show X.mg xn = _; rw [hX4]; exact hCn) (LM.here ?_) g.2.2
    refine codeAny_handlers_suite_as ?_
    refine HandSPX.lands_againZ fl3 fun h4 fl4 up4 => ?_
    have J4 : Inv X pins σ' H' { s' with heap := h4 } := J.landed nb fl4.1 ((up'.trans up3).trans up4) os' ag
    obtain ⟨oe4, vs4, he4, hz4, hd4⟩ := fl4.there
    have S4 := J4.suite he4 hd4 na nL nF
    refine store_ok (X := X.suite a ((a, oe4) :: (X.pn ++ pins))) (v := .ref a) S4 (by show X.N.Nodup; rw [hX6]; exact c.nd) ni nloc rfl (fun s5 S5 => ?_) nfn
    -- the suite
    have hiσ : i < σ'.length := by rw [J4.len]; exact (List.getElem?_eq_some_iff.mp ni).1
    obtain ⟨y, hy, wy⟩ := w
    obtain ⟨ts, suite, hts⟩ := hx x C a d oe4 (X.pn ++ pins) hm okx hbr hz4 ⟨_, hd4⟩
    have R7 : Rs X.K F' H' s2 := R.by R0 t0
    refine wpAny_mono (suite.run [] s5 _ H' { nx := fun _ _ => False, rt := fun v H6 => H6 = H' ∧ RV X.K F' v y } S5 (hts F' _ H' kvs y _ (fun p hp => by rw [List.mem_singleton.mp hp]; exact List.getElem?_set_self hiσ) hxd hy fun v rv => ⟨rfl, rv⟩)) (fun f s6 hsp => ?_) (fun _ _ z => False.elim z)
    cases f with
    | next => obtain ⟨_, _, _, q⟩ := hsp; exact q.elim
    | brk => obtain ⟨_, _, _, q⟩ := hsp; exact q.elim
    | cont => obtain ⟨_, _, _, q⟩ := hsp; exact q.elim
    | ret u =>
      obtain ⟨v, σ6, H6, S6, r6, rfl, rv6⟩ := hsp
      have T6 : Inv (cxE X a oe4 (X.pn ++ pins)) [] σ6 H6 s6 :=
        ⟨ok0.toTry _ _, S6.os, S6.bare, S6.base, S6.loc, S6.cell, S6.free, S6.freeC, fun p hp => S6.pin p hp, S6.hok, S6.len⟩
      refine gone_ok (X := cxE X a oe4 (X.pn ++ pins)) T6 (by show X.N.Nodup; rw [hX6]; exact c.nd) ni kn fun s7 T7 => ?_
      exact DL.SP.weaken (f := .ret u) ok0 ⟨v, _, _, T7, r6, kk.rt F' v _ y s2 t0 R7 rv6 wy⟩
  have lx' : @Lx _ (Gr.fr2 gR F H st) X.K mg Wd (X.tr (X.pn ++ pins) xe') := @Lx.mk _ (Gr.fr2 gR F H st) _ _ _ _ fun F1 H1 st1 σ1 ε1 g1 RE1 => ⟨fun F' H' s' x C dd ws kvs t R0 hm hd pr fr sd fd w =>
    wish_of tk' ⟨x, C, kvs, F', ε1, s', rfl, hm, fun _ => ⟨dd, rfl⟩, ⟨ws, hd, pr⟩, R0, Step.trans g1.2 t, RE1.mono t.ex, w⟩, fun F' H' s' x C t R0 hm hbr w =>
    wish_of tk' ⟨x, C, [], F', ε1, s', rfl, hm, (fun z => by rw [hbr] at z; cases z), rfl, R0, Step.trans g1.2 t, RE1.mono t.ex, w⟩⟩
  have c' : Cok P w X.K mg base (X.tr (X.pn ++ pins) xe') N sc fs k := ⟨hX1, hX2, rfl, hX4, hX5, hX6, c.nd, c.kind, c.hs, c.calm, c.fn, c.room, PassesOwn.looking⟩
  obtain ⟨tsb, pb, ab⟩ := @hb (Gr.fr2 gR F H st) Wd _ _ (fun _ _ _ z => z.1) (hX3 ▸ c') (hX3 ▸ lx')
  refine wpAny_execs_cons (wpAny_Try_except ?_)
  have ss0 : Step F H st F H st := Step.refl _ _ _
  have R' : @Rs _ (Gr.fr2 gR F H st) X.K F H st := @Rs.mk _ (Gr.fr2 gR F H st) _ _ _ _ R.toRs0 ⟨R.gr, ss0⟩
  have kb : @KS _ (Gr.fr2 gR F H st) X.K F H st { Dd with nx := tr Dd } { D with nx := fun σ' H' => ∃ F' ε' st', Step F H st F' H' st' ∧ Rs X.K F' H' st' ∧ RE X.K F' σ' ε' ∧ tr Dd ε' st' } :=
    @KS.mk _ (Gr.fr2 gR F H st) _ _ _ _ _ _ (fun F' σ' H' ε' st' t R1 E1 q => ⟨F', ε', st', t, R.by (@Rs.toRs0 _ (Gr.fr2 gR F H st) _ _ _ _ R1) t, E1, q⟩)
      (fun F' v H' x' st' t R1 r q => kk.rt F' v H' x' st' t (R.by (@Rs.toRs0 _ (Gr.fr2 gR F H st) _ _ _ _ R1) t) r q)
      (fun F' σ' H' ε' st' t R1 E1 q => kk.bk F' σ' H' ε' st' t (R.by (@Rs.toRs0 _ (Gr.fr2 gR F H st) _ _ _ _ R1) t) E1 q)
      (fun F' σ' H' ε' st' t R1 E1 q => kk.ct F' σ' H' ε' st' t (R.by (@Rs.toRs0 _ (Gr.fr2 gR F H st) _ _ _ _ R1) t) E1 q)
  refine wpAny_mono (pb.run [] s σ H _ (I.toTry _) (ab F σ H ε st _ _ R' E h kb)) (fun f s1 hsp => ?_) (fun e s1 he => he)
  cases f with
  | next =>
    obtain ⟨σ', H', J', F', ε', st', t, R1, E1, q⟩ := hsp
    obtain ⟨tsr, pr, ar⟩ := hr
    exact wpAny_execs_nil (pr.run pins s1 σ' H' D (J'.ofTry ok0) (ar F' σ' H' ε' st' _ _ R1 E1 q (kk.step t)))
  | brk =>
    obtain ⟨σ', H', J', q⟩ := hsp
    exact ⟨σ', H', J'.ofTry ok0, q⟩
  | cont =>
    obtain ⟨σ', H', J', q⟩ := hsp
    exact ⟨σ', H', J'.ofTry ok0, q⟩
  | ret u =>
    obtain ⟨v, σ', H', J', r, q⟩ := hsp
    exact ⟨v, σ', H', J'.ofTry ok0, r, q⟩
end
end DL
end
section
set_option Elab.async false
set_option linter.all false
set_option maxRecDepth 100000
set_option maxHeartbeats 4000000
namespace DL
open PySem PySem.Spec L2 PyProof.Rows EX
variable [tB : Tb]
/-- an expression in a suite whose value the error settles -/
def SuE (K : PySem.W.Frag) (Y : Cx) (e : Expr) (ks : List (Nat × V)) (d : Option Addr) (res : List (Str × DV) → Option DV) : Prop := ∃ te, PE Y e te ∧ ∀ (F : Hp) (σ : L2.St) (H : Hp) (kvs : List (Str × DV)) (y : DV) (Q : VK), Has ks σ → XD K F H d kvs → res kvs = some y → (∀ v, RV K F v y → Q v H) → te σ H Q
section
variable {K : PySem.W.Frag} {Y : Cx} {ks : List (Nat × V)} {d : Option Addr} {e b : Expr} {rest : List Expr} {pos : Pos}
theorem su_ret {res : List (Str × DV) → Option DV} (h : SuE K Y e ks d res) : SuR K Y [.Return (some e) pos] ks d res := by
  obtain ⟨te, p, s⟩ := h
  exact ⟨_, pss_one (ps_ret p), fun F σ H kvs y D h1 h2 h3 k => s F σ H kvs y _ h1 h2 h3 k⟩
theorem su_not {c : Bool} (h : SuE K Y e ks d fun _ => some (.d (.bool c))) : SuE K Y (.UnaryOp .Not e pos) ks d fun _ => some (.d (.bool !c)) := by
  obtain ⟨te, p, s⟩ := h
  refine ⟨_, pe_not p, fun F σ H kvs y Q h1 h2 h4 k => s F σ H kvs _ _ h1 h2 rfl fun v rv => ?_⟩
  cases h4
  cases rv with
  | d r => cases r; exact ⟨c, rfl, k _ (.d (.bl _))⟩
theorem su_and {c d' : Bool} (h : SuE K Y e ks d fun _ => some (.d (.bool c))) (h' : SuE K Y (.BoolOp .And (b :: rest) pos) ks d fun _ => some (.d (.bool d'))) : SuE K Y (.BoolOp .And (e :: b :: rest) pos) ks d fun _ => some (.d (.bool (c && d'))) := by
  obtain ⟨te, p, s⟩ := h
  obtain ⟨te', p', s'⟩ := h'
  refine ⟨_, pe_and p p', fun F σ H kvs y Q h1 h2 h4 k => s F σ H kvs _ _ h1 h2 rfl fun v rv => ?_⟩
  cases h4
  cases rv with
  | d r =>
    cases r
    refine ⟨c, rfl, ?_⟩
    cases c with
    | true => rw [if_pos rfl]; exact s' F σ H kvs _ _ h1 h2 rfl k
    | false => rw [if_neg (by decide)]; exact k _ (.d (.bl _))
theorem su_one {op : BoolOp} {res : List (Str × DV) → Option DV} (h : SuE K Y e ks d res) : SuE K Y (.BoolOp op [e] pos) ks d res := by
  obtain ⟨te, p, s⟩ := h
  exact ⟨_, pe_one p, s⟩
end
section
variable [gR : Gr] {P : Program} {w : World} {K : PySem.W.Frag} {mg : Str → Option Value} {base : Heap} {X : Cx} {N : List Str} {sc fs : Scope} {k : Nat} {a C : Addr} {d : Option Addr} {oe : Obj} {pn : List (Addr × Obj)} {ks : List (Nat × V)}
theorem inst_xdS {pins : List (Addr × Obj)} {σ : L2.St} {H : Hp} {s : Shared} {dd : Addr} {ws : List (Str × V)} (I : Inv (X.suite a ((a, oe) :: pn)) pins σ H s) (hz : Zc (.ref C) (some dd) oe) (hf : ∃ vs, oe.data = .fields vs) (hd : H dd = some (.xd ws)) :
    ∃ od, PySem.W.InstAt s.heap a oe C (some od) ∧ ∃ mA : Str → Option Value, (∀ f, RelO (ws.lookup f) (mA f)) ∧ ∀ f, PySem.W.lookIn f od = some (mA f) := by
  obtain ⟨ha, _⟩ := I.pin (a, oe) (List.mem_append_left _ List.mem_cons_self)
  obtain ⟨vs, hv⟩ := hf
  have ox : ObjOk X.prog X.w H s.heap dd (.xd ws) := I.hok dd _ hd
  obtain ⟨mA, hns, hr⟩ := ox
  obtain ⟨od, ho, hl⟩ := lookIn_ns hns
  exact ⟨od, ⟨ha, hz.1, by unfold PySem.W.notCls; rw [hv] <;> rfl, by rw [hz.2]; exact ho⟩, mA, hr, hl⟩
/-- the dict is there, if the error has one -/
def DOn (H : Hp) (d : Option Addr) : Prop := ∀ dd, d = some dd → ∃ ws, H dd = some (.xd ws)
theorem XD.on {F H : Hp} {kvs : List (Str × DV)} (h : XD K F H d kvs) : DOn H d := fun dd e => by
  subst e
  obtain ⟨ws, h1, _⟩ := h
  exact ⟨ws, h1⟩
theorem inst_ofS {pins : List (Addr × Obj)} {σ : L2.St} {H : Hp} {s : Shared} (I : Inv (X.suite a ((a, oe) :: pn)) pins σ H s) (hz : Zc (.ref C) d oe) (hf : ∃ vs, oe.data = .fields vs) (hd : DOn H d) : ∃ od, PySem.W.InstAt s.heap a oe C od := by
  cases d with
  | some dd =>
    obtain ⟨ws, h⟩ := hd dd rfl
    obtain ⟨od, J, _⟩ := inst_xdS I hz hf h
    exact ⟨_, J⟩
  | none =>
    obtain ⟨ha, _⟩ := I.pin (a, oe) (List.mem_append_left _ List.mem_cons_self)
    obtain ⟨vs, hv⟩ := hf
    exact ⟨none, ha, hz.1, by unfold PySem.W.notCls; rw [hv] <;> rfl, by rw [hz.2]; trivial⟩
def rIsO (K : PySem.W.Frag) (C a : Addr) (d : Option Addr) (cv : Value) : List V → Hp → VK → Prop := fun xs H Q => ∃ (c : V) (b : Bool), xs = [.ref a, c] ∧ (∀ u, RelV c u → u = cv) ∧ PySem.W.kitOne K (.ref C) cv = some b ∧ DOn H d ∧ Q (.bl b) H
theorem call_isOS {cv : Value} (EI : ExI X.K C) (EG : ExG X.K) (hz : Zc (.ref C) d oe) (hf : ∃ vs, oe.data = .fields vs) : CallR (X.suite a ((a, oe) :: pn)) (.builtin "isinstance") (rIsO X.K C a d cv) := by
  intro pins s σ H xs us Q I r h
  obtain ⟨c, b, rfl, hcv, e, hd, q⟩ := h
  obtain ⟨od, J⟩ := inst_ofS I hz hf hd
  cases r with
  | cons rx rr =>
    cases rr with
    | cons rt rr =>
      cases rr
      cases rx
      have ec := hcv _ rt
      subst ec
      exact PySem.W.kia_one (PySem.W.kitx_exc EI.cl EI.ga EI.gt EI.sb EI.ca EG.gs EG.tk EI.ob) I.kIn J e (fun z => nomatch z) fun tk => ⟨.bl b, H, I.kept (t' := tk) fun _ _ z => z, rfl, q⟩
theorem su_var {n : Str} {i : Nat} {py : Pos} (c : Cok P w K mg base X N sc fs k) (hi : locB N sc fs i n = true) (hln : sc.names.lookup n = some .local) (hvn : visB N sc i n = true) : PE (X.suite a ((a, oe) :: pn)) (.Name n py) (tVar i) := by
  obtain ⟨ni, nloc, nfn⟩ := loc_of c hi
  unfold visB at hvn
  simp only [Bool.and_eq_true, decide_eq_true_eq, Bool.not_eq_true'] at hvn
  obtain ⟨⟨⟨_, _⟩, vn3⟩, vn4⟩ := hvn
  exact pe_var (X := X.suite a ((a, oe) :: pn)) (i := i) (pos := py) ni (.inl (by show X.env.scope.names.lookup n = some .local; rw [c.hs]; exact hln)) vn3 vn4
theorem su_isX {n cn : Str} {i : Nat} {D : Addr} {b : Bool} {p py pc pos : Pos} (c : Cok P w K mg base X N sc fs k) (hg : glB sc "isinstance" = true) (hm : mg "isinstance" = none) (hi : locB N sc fs i n = true) (hln : sc.names.lookup n = some .local) (hvn : visB N sc i n = true) (hgc : glB sc cn = true) (hmc : mg cn = some (.ref D))
    (EI : ExI K C) (EG : ExG K) (hz : Zc (.ref C) d oe) (hf : ∃ vs, oe.data = .fields vs) (hk : PySem.W.kitOne K (.ref C) (.ref D) = some b) (hmem : (i, V.ref a) ∈ ks)
    (he : starEach [.Name n py, .Name cn pc] X.env = (false, eval (.Name n py) X.env) :: starEach [.Name cn pc] X.env := by rfl) : SuE X.K (X.suite a ((a, oe) :: pn)) (.Call (.Name "isinstance" p) [.Name n py, .Name cn pc] [] pos) ks d fun _ => some (.d (.bool b)) := by
  have g := gl_of c hg
  have g2 := gl_of c hgc
  have hK : X.K = K := c.hK
  refine ⟨_, pe_callB (X := X.suite a ((a, oe) :: pn)) (call_isOS (X := X) (C := C) (d := d) (cv := .ref D) (by rw [hK]; exact EI) (by rw [hK]; exact EG) hz hf) g.1 (by rw [c.hmg]; exact hm) (by decide +kernel) (pa_cons (X := X.suite a ((a, oe) :: pn)) (su_var c hi hln hvn) (pa_cons (X := X.suite a ((a, oe) :: pn)) (pe_glob (X := X.suite a ((a, oe) :: pn)) (v := .ref D) g2.1 (by rw [c.hmg]; exact hmc) rfl g2.2.2) pa_nil rfl) he) g.2.1 g.2.2 he rfl, fun F σ H kvs y Q h1 h2 h4 kk => ?_⟩
  cases h4
  exact ⟨.ref a, h1 _ hmem, .ref D, b, rfl, fun u hu => hu, by rw [hK]; exact hk, h2.on, kk _ (.d (.bl b))⟩
theorem su_xf {n f : Str} {i : Nat} {py pos : Pos} (c : Cok P w K mg base X N sc fs k) (hi : locB N sc fs i n = true) (hln : sc.names.lookup n = some .local) (hvn : visB N sc i n = true) (EI : ExI K C) (hno : PySem.W.findIn K (.ref C) f = some none) (hz : Zc (.ref C) d oe) (hf : ∃ vs, oe.data = .fields vs) (hdd : ∃ dd, d = some dd) (hmem : (i, V.ref a) ∈ ks)
    (hb : attributeBase (.Name n py) f X.env (eval (.Name n py) X.env) = eval (.Name n py) X.env := by rfl) : SuE X.K (X.suite a ((a, oe) :: pn)) (.Attribute (.Name n py) f pos) ks d fun kvs => kvs.lookup f := by
  have hK : X.K = K := c.hK
  obtain ⟨dd, rfl⟩ := hdd
  have p1 := su_var (a := a) (oe := oe) (pn := pn) (py := py) c hi hln hvn
  refine ⟨fun σ H Q => tVar i σ H fun x H1 => x = .ref a ∧ ∃ (ws : List (Str × V)) (v : V), H1 dd = some (.xd ws) ∧ ws.lookup f = some v ∧ Q v H1, ⟨fun pins s σ H Q I h => ?_⟩, fun F σ H kvs y Q h1 h2 h4 kk => ?_⟩
  · refine attr_of hb (thn (p1.run pins s σ H _ I h) fun u s1 hh => ?_)
    obtain ⟨x, H1, I1, rx, ex, ws, v, hd, hl, q⟩ := hh
    subst ex
    obtain rfl : u = Value.ref a := rx
    obtain ⟨od, J, mA, hr, hlk⟩ := inst_xdS I1 hz hf hd
    obtain ⟨u, hu, ru⟩ := RelO.some_of (v := v) (o := mA f) (by rw [← hl]; exact hr f)
    have EI' : ExI X.K C := by rw [hK]; exact EI
    exact HandSPX.exc_get I1.kIn J EI'.ga EI'.gt EI'.sb (PySem.W.findObj_own EI'.hd (by rw [hK]; exact hno) rfl (by rw [hlk, hu])) (handed_of ru) ⟨v, H1, I1.tok _, ru, q⟩
  · obtain ⟨ws, h2, h3⟩ := h2
    obtain ⟨v, hv, rv⟩ := px_look h3 h4
    exact ⟨.ref a, h1 _ hmem, rfl, ws, v, h2, hv, kk v rv⟩
end
end DL
end
section
set_option Elab.async false
set_option linter.all false
set_option maxRecDepth 100000
set_option maxHeartbeats 4000000
namespace DL
open PySem PySem.Spec PySem.W L2 PyProof.Rows EX
variable {K : PySem.W.Frag} {mg : Str → Option Value} {flds : List Str} {base' : Str} {L : List (Str × Addr)}
theorem Errs.takers1 (E : Errs K mg flds base' L) {y : Str} {D : Addr} (hy : y ∈ L.map (·.1)) (hn : mg y = some (.ref D)) : Takers K mg y (fun x => decide (x = y)) := by
  have q := E.one hy hn
  refine ⟨D, hn, fun x C hx hm => ?_⟩
  have e := of_decide_eq_true hx
  subst e
  have e2 : C = D := by rw [hn] at hm; cases hm; rfl
  subst e2
  have h := (E.cls _ q).ei
  have z := E.sub _ q _ q
  dsimp only at z
  rw [beq_self_eq_true] at z
  exact PySem.W.exm_ref h.sb h.hd h.ty z
end DL
end
section
set_option Elab.async false
set_option linter.all false
set_option maxRecDepth 100000
namespace RD
open PySem L2 DL
/-- ideal_of_complex(v, facets) slots: 0=v 1=facets 2=face -/
def rd_ideal_of_complex_x (W : XWe) (sp_least_lacking : SpD) (sp_product_of_vertices : SpD) (sp_made_x : XWc → SpD) : TDs :=
  (qRet (qCallX W sp_made_x (qCons (qv 0) (qCons (qLc false (qiSeq (qCall sp_least_lacking (qCons (qv 0) (qCons (qv 1) qNil)))) (qgN 2) qYes (qCall sp_product_of_vertices (qCons (qv 0) (qCons (qv 2) qNil))) [2]) qNil))))
/-- _law_limit(call) slots: 0=call 1=e -/
def rd_law_limit_c (tc : XWe → TD) : TDs :=
  (qTryR (fun x => decide (x = "TooMany")) (fun W => (qDrop (tc W)))
    (qRet (qc (.d .none)))
    (fun x kvs => kvs.lookup ("limit" : Str)))
/-- complex_of_ideal(ideal) slots: 0=ideal 1=n 2=generators 3=supports 4=found 5=size 6=face 7=monomial 8=support 9=other -/
def rd_complex_of_ideal_x (W : XWe) (sp_support_of : SpD) (sp_is_inside : SpD) : TDs :=
  (qSeq (qAsg (qv 0) (qgT 2 (qgCons (qgN 1) (qgCons (qgN 2) qgNil))))
  (qSeq (qIfS (qTest (qCB qAny (qCons (qLc false (qiSeq (qv 2)) (qgN 7) qYes (qOp qGt (qCB qMax1 (qCons (qv 7) qNil)) (qc (.d (.int 1)))) [7]) qNil))) (qRaise0 W "NotSquarefree") qNext)
  (qSeq (qPar 3 4 (qCons (qLc false (qiSeq (qv 2)) (qgN 7) qYes (qCall sp_support_of (qCons (qv 7) qNil)) [7]) (qCons (qLst true qNil) qNil)))
  (qSeq (qFor (qiRng3 (qCons (qv 1) (qCons (qUn qNeg (qc (.d (.int 1)))) (qCons (qUn qNeg (qc (.d (.int 1)))) qNil)))) (qgN 5) (qFor (qiCombR (qv 1) (qv 5)) (qgN 6) (qIfS (qNotT (qTest (qCB qAny (qCons (qLc false (qiSeq (qv 3)) (qgN 8) qYes (qCall sp_is_inside (qCons (qv 8) (qCons (qv 6) qNil))) [8]) qNil)))) (qIfS (qNotT (qTest (qCB qAny (qCons (qLc false (qiSeq (qv 4)) (qgN 9) qYes (qCall sp_is_inside (qCons (qv 6) (qCons (qv 9) qNil))) [9]) qNil)))) (qDrop (qAppend (qv 4) (qv 6))) qNext) qNext)))
  (qRet (qCB qTupleC (qCons (qSortD false (qv 4)) qNil)))))))
/-- _law_squarefree(m, n, count) slots: 0=m 1=n 2=count -/
def rd_law_squarefree (sp_law_ideal : SpD) : TDs :=
  (qRet (qCall sp_law_ideal (qCons (qv 0) (qCons (qv 1) (qCons (qv 2) (qCons (qc (.d (.int 1))) qNil))))))
/-- _law_monomial_of(v, face) slots: 0=v 1=face 2=k -/
def rd_law_monomial_of : TDs :=
  (qRet (qCB qTupleC (qCons (qLc false (qiRng1 (qCons (qv 0) qNil)) (qgN 2) qYes (qIf (qTest (qOp (qIn false) (qv 2) (qv 1))) (qc (.d (.int 1))) (qc (.d (.int 0)))) [2]) qNil)))
/-- _law_outside(ideal) slots: 0=ideal 1=n 2=generators 3=every 4=a -/
def rd_law_outside (sp_law_subsets : SpD) (sp_law_monomial_of : SpD) (sp_law_in : SpD) (sp_law_facets : SpD) : TDs :=
  (qSeq (qAsg (qv 0) (qgT 2 (qgCons (qgN 1) (qgCons (qgN 2) qgNil))))
  (qSeq (qAsg (qCall sp_law_subsets (qCons (qListRg false (qv 1)) qNil)) (qgN 3))
  (qRet (qCall sp_law_facets (qCons (qLc false (qiSeq (qv 3)) (qgN 4) (qNotT (qTest (qCall sp_law_in (qCons (qv 2) (qCons (qCall sp_law_monomial_of (qCons (qv 1) (qCons (qv 4) qNil))) qNil))))) (qv 4) [4]) qNil)))))
/-- _law_refused(ideal) slots: 0=ideal 1=e -/
def rd_law_refused (sp_complex_of_ideal_x : XWc → SpD) : TDs :=
  (qTryR (fun x => decide (x = "NotSquarefree")) (fun W => (qDrop (qCallX W sp_complex_of_ideal_x (qCons (qv 0) qNil))))
    (qRet (qc (.d (.bool false))))
    (fun x kvs => some (.d (.bool ((!(x == "NotIdeal")) && (!(x == "TooMany")))))))
/-- _law_lacking(v, facets) slots: 0=v 1=facets 2=faces 3=some 4=a 5=b -/
def rd_law_lacking (sp_law_faces : SpD) (sp_law_subsets : SpD) (sp_law_inside : SpD) : TDs :=
  (qSeq (qAsg (qCall sp_law_faces (qCons (qv 1) qNil)) (qgN 2))
  (qSeq (qAsg (qLc false (qiSeq (qCall sp_law_subsets (qCons (qListRg false (qv 0)) qNil))) (qgN 4) (qTest (qOp (qIn true) (qv 4) (qv 2))) (qv 4) [4]) (qgN 3))
  (qRet (qSortD false (qLc false (qiSeq (qv 3)) (qgN 4) (qTest (qOp qEq (qLc false (qiSeq (qv 3)) (qgN 5) (qAndT (qTest (qOp qNe (qv 5) (qv 4))) (qTest (qCall sp_law_inside (qCons (qv 5) (qCons (qv 4) qNil))))) (qv 5) [5]) (qLst false qNil))) (qv 4) [4])))))
/-- _law_right(m) slots: 0=m 1=v 2=facets 3=due 4=ideal 5=outside 6=spot 7=some 8=one 9=a -/
def rd_law_right (sp_law_draw : SpD) (sp_law_complex : SpD) (sp_law_lacking : SpD) (sp_law_monomial_of : SpD) (sp_ideal_of_complex : SpD) (sp_check_ideal : SpD) (sp_complex_of_ideal : SpD) (sp_law_squarefree : SpD) (sp_law_outside : SpD) (sp_law_least : SpD) (sp_law_refused : SpD) : TDs :=
  (qSeq (qAsg (qOp (qAdd false) (qc (.d (.int 1))) (qCall sp_law_draw (qCons (qv 0) (qCons (qc (.d (.int 6))) qNil)))) (qgN 1))
  (qSeq (qAsg (qCall sp_law_complex (qCons (qv 0) (qCons (qv 1) qNil))) (qgN 2))
  (qSeq (qAsg (qTup (qCons (qv 1) (qCons (qCB qTupleC (qCons (qSortD false (qLc false (qiSeq (qCall sp_law_lacking (qCons (qv 1) (qCons (qv 2) qNil)))) (qgN 9) qYes (qCall sp_law_monomial_of (qCons (qv 1) (qCons (qv 9) qNil))) [9])) qNil)) qNil))) (qgN 3))
  (qSeq (qIfS (qOrT (qTest (qOp qNeS (qCB qRepr (qCons (qCall sp_ideal_of_complex (qCons (qv 1) (qCons (qv 2) qNil))) qNil)) (qCB qRepr (qCons (qv 3) qNil)))) (qTest (qOp qNeS (qCB qRepr (qCons (qCall sp_check_ideal (qCons (qv 3) qNil)) qNil)) (qCB qRepr (qCons (qv 3) qNil))))) (qRet (qc (.d (.bool false)))) qNext)
  (qSeq (qIfS (qTest (qOp qNeS (qCB qRepr (qCons (qCall sp_complex_of_ideal (qCons (qv 3) qNil)) qNil)) (qCB qRepr (qCons (qv 2) qNil)))) (qRet (qc (.d (.bool false)))) qNext)
  (qSeq (qAsg (qCall sp_law_squarefree (qCons (qv 0) (qCons (qOp (qAdd false) (qc (.d (.int 1))) (qCall sp_law_draw (qCons (qv 0) (qCons (qc (.d (.int 6))) qNil)))) (qCons (qc (.d (.int 6))) qNil)))) (qgN 4))
  (qSeq (qAsg (qCall sp_law_outside (qCons (qv 4) qNil)) (qgN 5))
  (qSeq (qIfS (qOrT (qTest (qOp qNeS (qCB qRepr (qCons (qCall sp_complex_of_ideal (qCons (qv 4) qNil)) qNil)) (qCB qRepr (qCons (qv 5) qNil)))) (qTest (qOp qNeS (qCB qRepr (qCons (qCall sp_ideal_of_complex (qCons (qOp qIx (qv 4) (qc (.d (.int 0)))) (qCons (qv 5) qNil))) qNil)) (qCB qRepr (qCons (qv 4) qNil))))) (qRet (qc (.d (.bool false)))) qNext)
  (qSeq (qIfS (qTest (qOp qNe (qOp qIx (qv 4) (qc (.d (.int 1)))) (qTup qNil))) (qSeq (qAsg (qCall sp_law_draw (qCons (qv 0) (qCons (qCB qLen (qCons (qOp qIx (qv 4) (qc (.d (.int 1)))) qNil)) qNil))) (qgN 6))
      (qSeq (qAsg (qCB (qListC true) (qCons (qOp qIx (qv 4) (qc (.d (.int 1)))) qNil)) (qgN 7))
      (qSeq (qLPut (qv 7) (qv 6) (qCB qTupleC (qCons (qLc false (qiSeq (qOp qIx (qv 7) (qv 6))) (qgN 8) qYes (qOp (qMul false) (qc (.d (.int 2))) (qv 8)) [8]) qNil)))
      (qIfS (qNotT (qTest (qCall sp_law_refused (qCons (qTup (qCons (qOp qIx (qv 4) (qc (.d (.int 0)))) (qCons (qCall sp_law_least (qCons (qv 7) qNil)) qNil))) qNil)))) (qRet (qc (.d (.bool false)))) qNext)))) qNext)
  (qRet (qc (.d (.bool true)))))))))))))
/-- law(script) slots: 0=script 1=told 2=turn 3=k -/
def rd_law (sp_ideal_of_complex_x : XWc → SpD) (sp_complex_of_ideal_x : XWc → SpD) (sp_law_begun : SpD) (sp_law_right : SpD) : TDs :=
  (qSeq (qAsg (qLst false (qCons (qCall (sp_ideal_of_complex_x noX) (qCons (qc (.d (.int 2))) (qCons (qTup qNil) qNil))) (qCons (qCall (sp_ideal_of_complex_x noX) (qCons (qc (.d (.int 2))) (qCons (qTup (qCons (qTup qNil) qNil)) qNil))) qNil))) (qgN 1))
  (qSeq (qAsg (qOp (qAdd false) (qv 1) (qLst false (qCons (qCall (sp_complex_of_ideal_x noX) (qCons (qTup (qCons (qc (.d (.int 2))) (qCons (qTup qNil) qNil))) qNil)) (qCons (qCall (sp_complex_of_ideal_x noX) (qCons (qTup (qCons (qc (.d (.int 2))) (qCons (qTup (qCons (qTup (qCons (qc (.d (.int 0))) (qCons (qc (.d (.int 0))) qNil))) qNil)) qNil))) qNil)) qNil)))) (qgN 1))
  (qSeq (qIfS (qTest (qOp qNeS (qCB qRepr (qCons (qv 1) qNil)) (qCB qRepr (qCons (qLst false (qCons (qTup (qCons (qc (.d (.int 2))) (qCons (qTup (qCons (qTup (qCons (qc (.d (.int 0))) (qCons (qc (.d (.int 0))) qNil))) qNil)) qNil))) (qCons (qTup (qCons (qc (.d (.int 2))) (qCons (qTup (qCons (qTup (qCons (qc (.d (.int 0))) (qCons (qc (.d (.int 1))) qNil))) (qCons (qTup (qCons (qc (.d (.int 1))) (qCons (qc (.d (.int 0))) qNil))) qNil))) qNil))) (qCons (qTup (qCons (qTup (qCons (qc (.d (.int 0))) (qCons (qc (.d (.int 1))) qNil))) qNil)) (qCons (qTup qNil) qNil))))) qNil)))) (qRet (qc (.d (.bool false)))) qNext)
  (qSeq (qIfS (qTest (qOp qNotN (qLam 2 rd_law_limit_c (fun W => (qCallX W sp_ideal_of_complex_x (qCons (qc (.d (.int 11))) (qCons (qCB qTupleC (qCons (qLc false (qiRng1 (qCons (qc (.d (.int 11))) qNil)) (qgN 3) qYes (qTup (qCons (qv 3) qNil)) [3]) qNil)) qNil))))) (qc (.d .none)))) (qRet (qc (.d (.bool false)))) qNext)
  (qSeq (qIfS (qTest (qOp qNe (qLam 2 rd_law_limit_c (fun W => (qCallX W sp_ideal_of_complex_x (qCons (qc (.d (.int 12))) (qCons (qCB qTupleC (qCons (qLc false (qiRng1 (qCons (qc (.d (.int 12))) qNil)) (qgN 3) qYes (qTup (qCons (qv 3) qNil)) [3]) qNil)) qNil))))) (qc (.d (.int 60))))) (qRet (qc (.d (.bool false)))) qNext)
  (qSeq (qFor (qiRng1 (qCons (qCB qMax2 (qCons (qc (.d (.int 1))) (qCons (qCB qMin2 (qCons (qc (.d (.int 2))) (qCons (qCB qLen (qCons (qv 0) qNil)) qNil))) qNil))) qNil)) (qgN 2) (qIfS (qNotT (qTest (qCall sp_law_right (qCons (qCall sp_law_begun (qCons (qv 0) (qCons (qv 2) qNil))) qNil)))) (qRet (qc (.d (.bool false)))) qNext))
  (qRet (qc (.d (.bool true))))))))))
end RD
end
section
set_option Elab.async false
set_option linter.all false
set_option maxRecDepth 100000
set_option maxHeartbeats 1000000
open PySem L2 DL RD UC
local macro_rules | `(tactic| walk_at "E") => `(tactic| (try simp only [qAsg, qRet, qDrop, qIfS, qTest, qAndT, qOrT, qNotT, qAndV, qOrV, qNotV, qIf, qOp, qUn, qChain, onB, qv, qc, qgN, qgT, qgCons, qgNil, qCons, qNil, qTup, qLst, qPar, qPar3, qAug, qCB, qCall, qLen, qTupleC, qListC, qMax2, qMin2, qIntC, qSum, qAny, qAll, qIsi, tyName, qAdd, qSub, qMul, qFdiv, qMod, qPow, qI2, qCmpI, qEq, qNe, qLt, qLe, qGt, qGe, qNeg, qIx, qDGet, qDIn, qDPut, qSl, qPart, qNoPart, qNext, qFor, qiSeq, qiRng1, qiRng2, qiZip, qiEnum, qLc, seqSrc, lsrc, titems, litems, sitems, fz, newL, List.getElem?_cons_zero, List.getElem?_cons_succ, List.set_cons_zero, List.set_cons_succ, if_true, if_false, Bool.false_eq_true, ite_true, ite_false, up_same, reduceIte, decide_true, decide_false, true_and, and_true]))
local macro_rules | `(tactic| walk_at "D") => `(tactic| (try simp only [qAsg, qRet, qDrop, qIfS, qTest, qAndT, qOrT, qNotT, qAndV, qOrV, qNotV, qIf, qOp, qUn, qChain, onB, qv, qc, qgN, qgT, qgCons, qgNil, qCons, qNil, qTup, qLst, qPar, qPar3, qAug, qCB, qCall, qLen, qTupleC, qListC, qMax2, qMin2, qIntC, qSum, qAny, qAll, qIsi, tyName, qAdd, qSub, qMul, qFdiv, qMod, qPow, qI2, qCmpI, qEq, qNe, qLt, qLe, qGt, qGe, qNeg, qIx, qDGet, qDIn, qDPut, qSl, qPart, qNoPart, qNext, qFor, qiSeq, qiRng1, qiRng2, qiZip, qiEnum, qLc, seqSrc, lsrc, titems, litems, sitems, fz, newL, List.getElem?_cons_zero, List.getElem?_cons_succ, List.set_cons_zero, List.set_cons_succ, if_true, if_false, Bool.false_eq_true, ite_true, ite_false, up_same, reduceIte, decide_true, decide_false, true_and, and_true, eqv_int, eqv_bool, eqv_TI, eqv_LI, eqv_TT, eqv_LT, eqv_nilL, eqv_nilT, shaped_TI, shaped_LI, shaped_TT, shaped_LT, shaped_int, shaped_bool, shaped_nilL, shaped_nilT, dints_map2, dbools_map2, datas_map, mkT_map, mkT_0, mkT_1, mkT_2, mkT_3, List.length_map, List.length_cons, List.length_nil, List.length_append, List.map_cons, List.map_nil, wipeD, Bool.not_true, Bool.not_false, eq_self, not_true_eq_false, not_false_eq_true, kitB_tt, kitB_ll, kitB_dd, kitB_bb, kitB_ib, kitB_ii, kitB_ss, kitB_tl, kitB_lt, Function.comp, datas, Option.map_some, List.cons_append, List.nil_append, CPow, le_size4, Int.toNat_natCast, rngD0, I_eq, Bo_eq, BS.qSortB, in_IT, in_IL, in_TT, in_TL, qNotN, qIsN, qSortD, qListRg, qDispT, keyX_TI, qGet, qiItems, qLockE, qLockS, qPop, qMaxDf, qLPut, qDNew, qListItems, qListDK, qLc2, qMax1, qMin1, qAppend, qExtend, tints_TI, dv_TI, Option.bind_some, qRetN, atI_0, atI_1, atI_2, mk_appT, mk_snocI, idl, rep_I, Option.map_none, eqv_idl, shaped_idl, Bool.and_self, Bool.true_and, Bool.and_true]))
local macro_rules | `(tactic| walk_at "F") => `(tactic| (try simp only [qAsg, qRet, qDrop, qIfS, qTest, qAndT, qOrT, qNotT, qAndV, qOrV, qNotV, qIf, qOp, qUn, qChain, onB, qv, qc, qgN, qgT, qgCons, qgNil, qCons, qNil, qTup, qLst, qPar, qPar3, qAug, qCB, qCall, qLen, qTupleC, qListC, qMax2, qMin2, qIntC, qSum, qAny, qAll, qIsi, tyName, qAdd, qSub, qMul, qFdiv, qMod, qPow, qI2, qCmpI, qEq, qNe, qLt, qLe, qGt, qGe, qNeg, qIx, qDGet, qDIn, qDPut, qSl, qPart, qNoPart, qNext, qFor, qiRng1, qiRng2, qiZip, qiEnum, qLc, fz, newL, List.getElem?_cons_zero, List.getElem?_cons_succ, List.set_cons_zero, List.set_cons_succ, if_true, if_false, Bool.false_eq_true, ite_true, ite_false, up_same, reduceIte, decide_true, decide_false, true_and, and_true, eqv_int, eqv_bool, eqv_TI, eqv_LI, eqv_TT, eqv_LT, eqv_nilL, eqv_nilT, shaped_TI, shaped_LI, shaped_TT, shaped_LT, shaped_int, shaped_bool, shaped_nilL, shaped_nilT, dints_map2, dbools_map2, datas_map, mkT_map, mkT_0, mkT_1, mkT_2, mkT_3, List.length_map, List.length_cons, List.length_nil, List.length_append, List.map_cons, List.map_nil, wipeD, Bool.not_true, Bool.not_false, eq_self, not_true_eq_false, not_false_eq_true, kitB_tt, kitB_ll, kitB_dd, kitB_bb, kitB_ib, kitB_ii, kitB_ss, kitB_tl, kitB_lt, Function.comp, datas, Option.map_some, List.cons_append, List.nil_append, CPow, le_size4, Int.toNat_natCast, rngD0, I_eq, Bo_eq, BS.qSortB, in_IT, in_IL, in_TT, in_TL, qNotN, qIsN, qSortD, qListRg, qDispT, keyX_TI, qGet, qiItems, qLockE, qLockS, qPop, qMaxDf, qLPut, qDNew, qListItems, qListDK, qLc2, qMax1, qMin1, qAppend, qExtend, tints_TI, dv_TI, Option.bind_some, qRetN, atI_0, atI_1, atI_2, mk_appT, mk_snocI, idl, rep_I, Option.map_none, eqv_idl, shaped_idl, Bool.and_self, Bool.true_and, Bool.and_true]))
namespace U
open PySem L2 DL RD CpComb UC
def twoB (m : List Int) : Bool := m.any fun e => decide (1 < e)
theorem two_max {a : Int} {r : List Int} : twoB (a :: r) = decide (1 < r.foldl max a) := by
  unfold twoB
  by_cases h : 1 < r.foldl max a
  · rw [decide_eq_true h]
    obtain ⟨x, hx, hb⟩ : ∃ x ∈ a :: r, 1 < x := by
      apply Classical.byContradiction
      intro hn
      have : r.foldl max a ≤ 1 := foldl_max_le r a (Int.not_lt.mp fun z => hn ⟨a, List.mem_cons_self, z⟩) fun x hx => Int.not_lt.mp fun z => hn ⟨x, List.mem_cons_of_mem _ hx, z⟩
      omega
    exact List.any_eq_true.mpr ⟨x, hx, decide_eq_true hb⟩
  · rw [decide_eq_false h]
    refine Bool.eq_false_iff.mpr fun z => ?_
    obtain ⟨x, hx, hb⟩ := List.any_eq_true.mp z
    have hb := of_decide_eq_true hb
    have g := foldl_max_ge r a
    rcases List.mem_cons.mp hx with e | e
    · subst e; have := g.1; omega
    · have := g.2 x e; omega
def sp_complex_of_ideal_x : XWc → SpD := fun W xs st Q => ∃ (n : Nat) (G : List (List Int)), xs = [.d (idl n G)] ∧ 1 ≤ n ∧ n ≤ 7 ∧ G.length ≤ 200 ∧ (∀ g ∈ G, NN n g) ∧ ((∀ g ∈ G, Unit1 n g) → Q (.d (TT (cxI n G))) st) ∧ ((¬ ∀ g ∈ G, Unit1 n g) → W "NotSquarefree" [] st)
theorem len_complex_of_ideal_x : ∀ W xs st Q, sp_complex_of_ideal_x W xs st Q → xs.length = 1 := by rintro W xs st Q ⟨v, F, rfl, _⟩; rfl
theorem sem_complex_of_ideal_x : ∀ W xs st Q, sp_complex_of_ideal_x W xs st Q → rd_complex_of_ideal_x (fun x kvs _ st' => FgX W x kvs st') sp_support_of sp_is_inside { nx := fun _ st' => Fg Q (.d .none) st', rt := Fg Q } (startD 10 xs) st := by
  rintro W xs st Q ⟨n, G, rfl, h1, h7, hl, hM, K1, K2⟩
  have e0 : startD 10 [.d (idl n G)] = [some (.d (idl n G)), none, none, none, none, none, none, none, none, none] := rfl
  rw [e0]
  unfold rd_complex_of_ideal_x
  refine seq fun N hN => ?_
  walk_at "D"
  refine hN _ _ ?_; clear hN N
  refine seq fun N hN => ?_
  walk_at "D"
  refine ⟨by rw [sizeL]; omega, ?_⟩
  rw [List.map_map]
  refine comp_mapT _ (fun g => Bo (twoB g)) trivial _ _ ?_ ?_
  · intro g hg Q1 h
    have hu := hM g hg
    cases g with
    | nil => have := hu.1; simp at this; omega
    | cons a r =>
      walk_at "D"
      have e1 : dints (DV.d (.int a) :: List.map DV.d (List.map PyData.int r)) = some (a :: r) := dints_map2 (a :: r)
      simp only [e1]
      walk_at "D"
      rw [two_max] at h
      exact h
  rw [show ([] : List DV) ++ G.map (fun g => Bo (twoB g)) = ((G.map twoB).map PyData.bool).map .d by rw [List.nil_append, List.map_map, List.map_map]; rfl]
  walk_at "D"
  have ea : (G.map twoB).any id = G.any twoB := by rw [List.any_map]; rfl
  rw [ea]
  by_cases hall : ∀ g ∈ G, Unit1 n g
  rotate_left
  · have hb : G.any twoB = true := by
      refine Classical.byContradiction fun z => hall fun g hg => ?_
      have hg2 : twoB g = false := by
        cases e : twoB g with
        | false => rfl
        | true => exact absurd (List.any_eq_true.mpr ⟨g, hg, e⟩) z
      refine ⟨(hM g hg).1, fun j hj => ?_⟩
      have h0 := (hM g hg).2 _ (gd_mem (a := g) (j := j) (by rw [(hM g hg).1]; exact hj))
      have h2 : ¬ 1 < gd g j := fun z => by
        have : twoB g = true := List.any_eq_true.mpr ⟨_, gd_mem (a := g) (j := j) (by rw [(hM g hg).1]; exact hj), decide_eq_true z⟩
        rw [hg2] at this
        cases this
      omega
    rw [hb]
    walk_at "D"
    simp only [qRaise0]
    exact ⟨st, Le.refl _, K2 hall⟩
  have hG := hall
  have K := K1 hall
  have hb : G.any twoB = false := by
    rw [List.any_eq_false]
    intro g hg z
    obtain ⟨x, hx, hlt⟩ := List.any_eq_true.mp z
    have := (mon_unit (hG g hg)).2 x hx
    have := of_decide_eq_true hlt
    omega
  rw [hb]
  walk_at "D"
  refine hN _ _ ?_; clear hN N
  refine seq fun N hN => ?_
  walk_at "D"
  refine ⟨by rw [sizeL]; omega, ?_⟩
  rw [List.map_map]
  refine comp_mapT _ (fun g => .d (TI (suppL g))) trivial _ _ ?_ ?_
  · intro g hg Q1 h
    walk_at "D"
    exact ⟨g, rfl, by rw [(hG g hg).1]; omega, h⟩
  rw [show ([] : List DV) ++ G.map (fun g => DV.d (TI (suppL g))) = ((G.map suppL).map TI).map .d by rw [List.nil_append, List.map_map, List.map_map]; rfl]
  walk_at "D"
  refine ⟨by decide, fun p hp => hN _ _ ?_⟩; clear hN N
  refine seq fun N hN => ?_
  walk_at "F"
  simp only [qiRng3]
  walk_at "D"
  refine ⟨⟨by omega, by omega, by decide, by decide⟩, ?_⟩
  unfold rngDn
  rw [show ((n : Int) - -1).toNat = n + 1 by omega]
  refine for_byT _ (fun i ε s => (∃ y5 y6, ε = [some (.d (idl n G)), some (I n), some (.d (TT G)), some (.d (LT (G.map suppL))), some (.r p), y5, y6, none, none, none]) ∧ s p = some (.lst (((((List.range i).foldl (sizeC n G) []).map TI).map .d))) ∧ ∀ b, b ≠ p → s b = st b) ⟨⟨_, _, rfl⟩, up_same, fun b hb => up_ne hb⟩ (fun _ _ _ _ => trivial) ?_ ?_
  · rintro i k ε s hi ⟨⟨y5, y6, rfl⟩, hs, fr⟩ L hL
    obtain ⟨rfl, hi13⟩ := range_some hi
    have hlen := len_sizeC h7 G k
    have hnx : (List.range (k + 1)).foldl (sizeC n G) [] = sizeC n G ((List.range k).foldl (sizeC n G) []) k := by
      rw [List.range_succ, List.foldl_append]
      rfl
    generalize (List.range k).foldl (sizeC n G) [] = F0 at hs hnx hlen
    walk_at "D"
    obtain ⟨m, hm, hmk⟩ : ∃ m : Nat, (n : Int) - (k : Int) = (m : Int) ∧ m = n - k := ⟨n - k, by omega, rfl⟩
    rw [hm]
    simp only [qiCombR]
    walk_at "D"
    refine ⟨⟨by omega, by omega⟩, ⟨by omega, by omega⟩, ?_⟩
    rw [rng_dv, comb_dv]
    have hcl := len_comb7 h7 m
    refine for_byT _ (fun j ε s' => (∃ y6, ε = [some (.d (idl n G)), some (I n), some (.d (TT G)), some (.d (LT (G.map suppL))), some (.r p), some (I m), y6, none, none, none]) ∧ s' p = some (.lst (((((((combL (rangeI n) m).take j).filter (outB n G)).foldl (stepG (m : Int)) F0).map TI).map .d))) ∧ ∀ b, b ≠ p → s' b = st b) ⟨⟨_, rfl⟩, hs, fr⟩ (fun _ _ _ _ => trivial) ?_ ?_
    · rintro j c ε s' hj ⟨⟨z6, rfl⟩, hs', fr'⟩ L2 hL2
      have hcm := (mem_combL.mp (List.mem_of_getElem? hj))
      have hc12 : c.length ≤ 12 := by
        have := hcm.1.length_le
        rw [List.length_map, List.length_range] at this
        omega
      have hnx2 : (((combL (rangeI n) m).take (j + 1)).filter (outB n G)).foldl (stepG (m : Int)) F0 = if outB n G c = true then stepG (m : Int) ((((combL (rangeI n) m).take j).filter (outB n G)).foldl (stepG (m : Int)) F0) c else (((combL (rangeI n) m).take j).filter (outB n G)).foldl (stepG (m : Int)) F0 := by
        rw [List.take_succ, hj, List.filter_append, List.foldl_append]
        show (List.filter (outB n G) [c]).foldl _ _ = _
        rw [List.filter_cons, List.filter_nil]
        split <;> rfl
      have hlen2 : ((((combL (rangeI n) m).take j).filter (outB n G)).foldl (stepG (m : Int)) F0).length ≤ 2000 := by
        have h1 := len_steps (m : Int) (((combL (rangeI n) m).take j).filter (outB n G)) F0
        have h2 := List.length_filter_le (outB n G) ((combL (rangeI n) m).take j)
        have h3 : ((combL (rangeI n) m).take j).length ≤ 128 := by rw [List.length_take]; omega
        omega
      generalize (((combL (rangeI n) m).take j).filter (outB n G)).foldl (stepG (m : Int)) F0 = F1 at hs' hnx2 hlen2
      have stay : stepG (m : Int) F1 c = F1 ∨ outB n G c = false → L2 [some (.d (idl n G)), some (I n), some (.d (TT G)), some (.d (LT (G.map suppL))), some (.r p), some (I m), some (.d (TI c)), none, none, none] s' := fun h => by
        refine hL2 _ _ ⟨⟨_, rfl⟩, ?_, fr'⟩
        rw [hnx2]
        rcases h with h | h
        · rw [h, ite_self]
          exact hs'
        · rw [h]
          exact hs'
      walk_at "D"
      refine ⟨by rw [sizeL]; omega, ?_⟩
      rw [List.map_map]
      refine comp_mapT _ (fun s => Bo (insB s c)) trivial _ _ ?_ ?_
      · intro g hg Q1 h
        walk_at "D"
        exact ⟨g, c, rfl, h⟩
      have e1 : ([] : List DV) ++ (G.map suppL).map (fun s => Bo (insB s c)) = (((G.map suppL).map fun s => insB s c).map PyData.bool).map .d := by
        simp only [List.nil_append, List.map_map]
        rfl
      rw [e1]
      walk_at "D"
      have ea : ((G.map suppL).map fun s => insB s c).any id = !outB n G c := by
        unfold outB
        rw [Bool.not_not, ← out_any hG, List.any_map]
        rfl
      rw [ea]
      by_cases c1 : outB n G c = true
      · rw [c1]
        walk_at "D"
        simp only [hs']
        walk_at "D"
        refine ⟨by rw [sizeL]; omega, ?_⟩
        rw [TIs_dv]
        refine comp_mapT _ (fun o => Bo (insB c o)) (by rw [← TIs_dv]; exact hs') _ _ ?_ ?_
        · intro o ho Q1 h
          walk_at "D"
          exact ⟨c, o, rfl, h⟩
        have e1 : ([] : List DV) ++ F1.map (fun o => Bo (insB c o)) = ((F1.map fun o => insB c o).map PyData.bool).map .d := by
          rw [List.nil_append, List.map_map, List.map_map]
          rfl
        rw [e1]
        walk_at "D"
        have ea : (F1.map fun o => insB c o).any id = F1.any fun o => insB c o := by rw [List.any_map]; rfl
        rw [ea]
        have es : stepG (m : Int) F1 c = if (!(F1.any fun o => insB c o)) = true then F1 ++ [c] else F1 := by
          unfold stepG
          rw [decide_eq_true (show (c.length : Int) = (m : Int) by rw [hcm.2]), Bool.true_and]
        by_cases c2 : (!(F1.any fun o => insB c o)) = true
        · rw [if_pos c2] at es ⊢
          refine ⟨⟨_, hs'⟩, _, hs', by simp only [List.length_map, sizeL]; omega, hL2 _ _ ⟨⟨_, rfl⟩, ?_, fun b hb => by rw [up_ne hb]; exact fr' b hb⟩⟩
          rw [up_same, hnx2, if_pos c1, es, List.map_append, List.map_append]
          rfl
        · rw [if_neg c2] at es ⊢
          exact stay (.inl es)
      · have c1 : outB n G c = false := by simpa using c1
        rw [c1]
        walk_at "D"
        exact stay (.inr c1)
    · rintro ε s' ⟨⟨z6, rfl⟩, hs', fr'⟩
      rw [List.take_length] at hs'
      refine hL _ _ ⟨⟨_, _, rfl⟩, ?_, fr'⟩
      rw [hnx]
      unfold sizeC
      rw [← hmk]
      exact hs'
  · rintro ε s ⟨⟨y5, y6, rfl⟩, hs, fr⟩
    refine hN _ _ ?_
    rw [List.length_range] at hs
    have hs2 : s p = some (.lst (((cxL n G).map TI).map .d)) := hs
    have hln : (cxL n G).length ≤ 128 * (n + 1) := len_sizeC h7 G (n + 1)
    have hle : 128 * (n + 1) ≤ 128 * 8 := Nat.mul_le_mul_left _ (by omega)
    obtain ⟨nd, gm⟩ := cxL_ok (n := n) (G := G)
    walk_at "D"
    simp only [hs2]
    walk_at "D"
    refine ⟨alikeC _, sortXC _, by omega, depthC, ?_⟩
    rw [sortC nd, gm]
    walk_at "D"
    exact fg_le (le_up hp fr) K
def srE (v : Nat) (F : List (List Int)) : ExT := if 60 < (srG v F).length then .error ("TooMany", 60) else .ok (idl v (srG v F))
def sp_ideal_of_complex_x : XWc → SpD := fun W xs st Q => ∃ (v : Nat) (F : List (List Int)), xs = [I v, .d (TT F)] ∧ 1 ≤ v ∧ v ≤ 12 ∧ F.length ≤ 200 ∧ (∀ f ∈ F, f.length ≤ 7) ∧ AscL F ∧ (lackN v F (v + 1)).length ≤ 3000 ∧ tellL (srE v F) W Q st
theorem len_ideal_of_complex_x : ∀ W xs st Q, sp_ideal_of_complex_x W xs st Q → xs.length = 2 := by rintro W xs st Q ⟨v, F, rfl, _⟩; rfl
theorem sem_ideal_of_complex_x : ∀ W xs st Q, sp_ideal_of_complex_x W xs st Q → rd_ideal_of_complex_x (fun x kvs _ st' => FgX W x kvs st') sp_least_lacking sp_product_of_vertices sp_made_x { nx := fun _ st' => Fg Q (.d .none) st', rt := Fg Q } (startD 3 xs) st := by
  rintro W xs st Q ⟨v, F, rfl, h1, h12, hl, hf, hA, hln, K⟩
  have e0 : startD 3 [I v, .d (TT F)] = [some (I v), some (.d (TT F)), none] := rfl
  rw [e0]
  unfold rd_ideal_of_complex_x
  walk_at "D"
  simp only [qCallX]
  walk_at "D"
  refine ⟨v, F, rfl, by omega, hl, hf, fun q s1 hq hs1 le => ?_⟩
  walk_at "D"
  simp only [hs1]
  walk_at "D"
  refine ⟨by rw [sizeL]; omega, ?_⟩
  rw [TIs_dv]
  refine comp_mapT _ (fun c => .d (TI (xV v c))) (by rw [← TIs_dv]; exact hs1) _ _ ?_ ?_
  · intro c hc Q1 h
    walk_at "D"
    exact ⟨v, c, rfl, by omega, h⟩
  · have e1 : [] ++ (lackN v F (v + 1)).map (fun c => DV.d (TI (xV v c))) = (((lackN v F (v + 1)).map (xV v)).map TI).map .d := by
      rw [List.nil_append, List.map_map, List.map_map]
      rfl
    rw [e1]
    walk_at "D"
    have em := sr_made (v := v) hA fun b => lack_min (v := v) (F := F) (x := b)
    have mT : ∀ t ∈ (lackN v F (v + 1)).map (xV v), Mon v 60 t := fun t ht => by
      obtain ⟨b, _, rfl⟩ := List.mem_map.mp ht
      exact (mon_xV v b).mono (by decide)
    refine ⟨_, (lackN v F (v + 1)).map (xV v), v, 60, rfl, rfl, ⟨h1, by omega, by rw [List.length_map]; omega, mT⟩, ?_⟩
    have eM : madeE ((lackN v F (v + 1)).map (xV v)) = if 60 < (srG v F).length then .error "TooMany" else .ok (srG v F) := by
      unfold madeE
      rw [em]
      split
      · rfl
      · rw [if_neg]
        intro z
        obtain ⟨x, hx, hb⟩ := List.any_eq_true.mp z
        rw [← em] at hx
        rw [big_mon (mT x (min_sub x hx))] at hb
        cases hb
    rw [eM]
    unfold srE at K
    split at K
    · rename_i h
      rw [if_pos h]
      have K' : W "TooMany" [(fldOf (PySem.Str.ofString "TooMany"), I 60)] st := K
      rw [fld1] at K'
      exact ⟨st, le, K'⟩
    · rename_i h
      rw [if_neg h]
      exact fg_le le K
/-- the limit that a call passes -/
def limV : ExT → PyData
  | .ok _ => .none
  | .error (_, i) => .int i
theorem go_limit {tb : XWe → TD} {ε : DL.Env} {st : Sto} {Q : DV → Sto → Prop} (r : ExT) (hx : ∀ x i, r = .error (x, i) → x = "TooMany") (hb : ∀ (Wc : XWc) (Q' : DV → Sto → Prop), tellL r Wc Q' st → tb (fun x kvs _ s => Wc x kvs s) ε st Q') (K : Q (.d (limV r)) st) : qLam 2 rd_law_limit_c tb ε st Q := by
  intro f
  have e0 : startD 2 [.r f] = [some (.r f), none] := rfl
  rw [e0]
  unfold rd_law_limit_c
  simp only [qTryR]
  walk_at "D"
  refine hb _ _ ?_
  cases r with
  | ok v =>
    simp only [tellL]
    walk_at "D"
    exact fg_ret K
  | error z =>
    obtain ⟨x, i⟩ := z
    have e := hx x i rfl
    subst e
    simp only [tellL]
    refine ⟨by decide, .d (.int i), ?_, fg_ret K⟩
    rw [fld1]
    simp [List.lookup]
def sp_law_refused : SpD := fun xs st Q => ∃ (n : Nat) (G : List (List Int)), xs = [.d (idl n G)] ∧ 1 ≤ n ∧ n ≤ 7 ∧ G.length ≤ 200 ∧ (∀ g ∈ G, NN n g) ∧ (¬ ∀ g ∈ G, Unit1 n g) ∧ Q (Bo true) st
theorem len_law_refused : ∀ xs st Q, sp_law_refused xs st Q → xs.length = 1 := by rintro xs st Q ⟨v, F, rfl, _⟩; rfl
theorem sem_law_refused : ∀ xs st Q, sp_law_refused xs st Q → rd_law_refused sp_complex_of_ideal_x { nx := fun _ st' => Fg Q (.d .none) st', rt := Fg Q } (startD 2 xs) st := by
  rintro xs st Q ⟨n, G, rfl, h1, h7, hl, hM, hno, K⟩
  have e0 : startD 2 [.d (idl n G)] = [some (.d (idl n G)), none] := rfl
  rw [e0]
  unfold rd_law_refused
  simp only [qTryR, qCallX]
  walk_at "D"
  refine ⟨n, G, rfl, h1, h7, hl, hM, fun z => absurd z hno, fun _ => ?_⟩
  refine ⟨by decide, _, rfl, ?_⟩
  exact fg_ret K
end U
end
section
set_option Elab.async false
set_option linter.all false
set_option maxRecDepth 100000
set_option maxHeartbeats 1000000
namespace UC
open PySem L2 DL RD
theorem nodup_subs : ∀ (xs : List Int), xs.Nodup → (subsL xs).Nodup := by
  intro xs
  induction h : xs.length generalizing xs with
  | zero =>
    intro _
    rw [List.length_eq_zero_iff.mp h]
    exact List.nodup_cons.mpr ⟨List.not_mem_nil, List.nodup_nil⟩
  | succ n ih =>
    intro nd
    have hne : xs ≠ [] := fun z => by rw [z] at h; cases h
    obtain ⟨ys, x, rfl⟩ : ∃ ys x, xs = ys ++ [x] := ⟨xs.dropLast, xs.getLast hne, (List.dropLast_concat_getLast hne).symm⟩
    rw [List.length_append, List.length_singleton] at h
    rw [List.nodup_append] at nd
    obtain ⟨nd1, _, nd3⟩ := nd
    have ih1 := ih ys (by omega) nd1
    rw [subs_snoc, List.nodup_append]
    refine ⟨ih1, nodup_map_of ih1 fun a _ b _ e => by simpa using e, fun a ha b hb e => ?_⟩
    obtain ⟨c, _, rfl⟩ := List.mem_map.mp hb
    have hx : x ∈ ys := (mem_subs.mp ha).subset (by rw [e]; simp)
    exact nd3 x hx x (List.mem_singleton.mpr rfl) rfl
theorem mem_subs_asc {n : Nat} {a : List Int} : a ∈ subsL (rangeI n) ↔ Asc a ∧ Low n a := by
  rw [mem_subs]
  exact ⟨fun h => ⟨(asc_rngV n).sublist h, fun x hx => mem_rngV.mp (h.subset hx)⟩, fun h => asc_sub h.1 (asc_rngV n) fun x hx => mem_rngV.mpr (h.2 x hx)⟩
def lawNF (v : Nat) (F : List (List Int)) : List (List Int) := (subsL (rangeI v)).filter fun a => !decide (a ∈ facesF F)
def lawLack (v : Nat) (F : List (List Int)) : List (List Int) := (lawNF v F).filter fun a => decide ((lawNF v F).filter (fun b => decide (b ≠ a) && insB b a) = [])
theorem mem_lawNF {v : Nat} {F : List (List Int)} {a : List Int} : a ∈ lawNF v F ↔ Asc a ∧ Low v a ∧ a ∉ facesF F := by
  unfold lawNF
  rw [List.mem_filter, mem_subs_asc, Bool.not_eq_true', decide_eq_false_iff_not, and_assoc]
theorem mem_lawLack {v : Nat} {F : List (List Int)} (hF : AscL F) {b : List Int} : b ∈ lawLack v F ↔ MinNF v F b := by
  unfold lawLack
  rw [List.mem_filter, mem_lawNF, decide_eq_true_eq, List.filter_eq_nil_iff]
  constructor
  · rintro ⟨⟨h1, h2, h3⟩, h4⟩
    refine ⟨h1, h2, h3, fun c hc => Classical.byContradiction fun hn => ?_⟩
    obtain ⟨s1, s2⟩ := bord_sub hc
    have := h4 c (mem_lawNF.mpr ⟨h1.sublist s1, fun x hx => h2 x (s1.subset hx), hn⟩)
    rw [Bool.and_eq_true, not_and, decide_eq_true_eq] at this
    exact this (fun e => by rw [e] at s2; exact Nat.lt_irrefl _ s2) (insB_iff.mpr fun x hx => s1.subset hx)
  · intro h
    refine ⟨⟨h.asc, h.low, h.no⟩, fun c hc z => ?_⟩
    rw [Bool.and_eq_true, decide_eq_true_eq] at z
    obtain ⟨c1, c2, c3⟩ := mem_lawNF.mp hc
    obtain ⟨d, hd, hi⟩ := nf_has hF c1 c2 c3
    have e := nf_anti hF hd h (insB_iff.mpr fun x hx => insB_iff.mp z.2 x (insB_iff.mp hi x hx))
    subst e
    exact z.1 (asc_ext c1 h.asc fun x => ⟨fun hx => insB_iff.mp z.2 x hx, fun hx => insB_iff.mp hi x hx⟩)
theorem nodup_lawLack (v : Nat) (F : List (List Int)) : (lawLack v F).Nodup :=
  ((nodup_subs _ (nodup_rangeI v)).sublist List.filter_sublist).sublist List.filter_sublist
theorem len_lawNF {v : Nat} (hv : v ≤ 6) (F : List (List Int)) : (lawNF v F).length ≤ 64 := by
  refine Nat.le_trans (List.length_filter_le _ _) ?_
  rw [len_subs, List.length_map, List.length_range]
  exact Nat.le_trans (Nat.pow_le_pow_right (by decide) hv) (by decide)
theorem law_due {v : Nat} {F : List (List Int)} (hF : AscL F) : sortU ((sortU (lawLack v F)).map (xV v)) = srG v F := sortU_eq (ris_srG v F) fun g => by
  rw [mem_srG hF, List.mem_map]
  constructor
  · rintro ⟨b, hb, rfl⟩
    exact ⟨b, (mem_lawLack hF).mp (mem_sortU.mp hb), rfl⟩
  · rintro ⟨b, hb, rfl⟩
    exact ⟨b, mem_sortU.mpr ((mem_lawLack hF).mpr hb), rfl⟩
theorem nodup_due {v : Nat} {F : List (List Int)} (hF : AscL F) : ((sortU (lawLack v F)).map (xV v)).Nodup :=
  nodup_map_of (ris_nodup (ris_sortU _)) fun a ha b hb e => by
    have h1 := (mem_lawLack hF).mp (mem_sortU.mp ha)
    have h2 := (mem_lawLack hF).mp (mem_sortU.mp hb)
    exact xV_inj h1.asc h1.low h2.asc h2.low e
theorem unit_in {n : Nat} {G : List (List Int)} (hG : ∀ g ∈ G, Unit1 n g) {c : List Int} (hc : NN n c) : inL G c = true ↔ inL G (xV n (suppL c)) = true := by
  rw [inL_iff, inL_iff]
  refine exists_congr fun g => and_congr_right fun hg => ?_
  have u := hG g hg
  rw [divB_iff u.1 hc.1, divB_iff u.1 len_xV]
  refine forall_congr' fun j => forall_congr' fun hj => ?_
  rw [gd_xV hj]
  have h0 := hc.2 _ (gd_mem (a := c) (j := j) (by rw [hc.1]; exact hj))
  have e : (j : Int) ∈ suppL c ↔ 0 < gd c j := by
    rw [mem_supp hc.1]
    exact ⟨fun ⟨k, hk, h1, h2⟩ => by have : j = k := by omega
                                     rw [this]; exact h1, fun h => ⟨j, hj, h, rfl⟩⟩
  rcases u.2 j hj with z | z <;> rw [z]
  · constructor
    · intro _; split <;> decide
    · intro _; exact h0
  · by_cases c : 0 < gd c j
    · rw [if_pos (e.mpr c)]
      exact ⟨fun _ => by decide, fun _ => by omega⟩
    · rw [if_neg fun q => c (e.mp q)]
      exact ⟨fun q => by omega, fun q => by omega⟩
theorem neg_in {n : Nat} {G : List (List Int)} (hG : ∀ g ∈ G, Unit1 n g) {c : List Int} (hl : c.length = n) (hc : ¬ NN n c) : inL G c = false := by
  rw [inL_false, inL_iff]
  rintro ⟨g, hg, h⟩
  refine hc (nn_of_gd hl fun j hj => ?_)
  have := (divB_iff (hG g hg).1 hl).mp h j hj
  rcases (hG g hg).2 j hj with z | z <;> omega
theorem faces_cxI {n : Nat} {G : List (List Int)} (hG : ∀ g ∈ G, Unit1 n g) {a : List Int} (ha : Asc a) (hl : Low n a) : a ∈ facesF (cxI n G) ↔ inL G (xV n a) = false := by
  constructor
  · intro h
    obtain ⟨_, f, hf, hi⟩ := (face_iff (cx_cxI n G).asc).mp h
    have hf2 := mem_cxS.mp (mem_maxF.mp hf).1
    rw [inL_false]
    intro z
    obtain ⟨g, hg, hd⟩ := inL_iff.mp z
    have hu := hG g hg
    refine inL_false.mp hf2.2.2 (inL_iff.mpr ⟨g, hg, (divB_iff hu.1 len_xV).mpr fun j hj => ?_⟩)
    have h1 := (divB_iff hu.1 len_xV).mp hd j hj
    rw [gd_xV hj] at h1 ⊢
    by_cases c : (j : Int) ∈ a
    · rw [if_pos (insB_iff.mp hi _ c)]
      rw [if_pos c] at h1
      exact h1
    · rw [if_neg c] at h1
      split <;> omega
  · intro h
    obtain ⟨b, hb, hi⟩ := max_up asc_cxS (mem_cxS.mpr ⟨ha, hl, h⟩)
    exact (face_iff (cx_cxI n G).asc).mpr ⟨ha, b, hb, hi⟩
/-- the ideal of the complex of a squarefree ideal is the ideal -/
theorem sr_cxI {n : Nat} {G : List (List Int)} (hG : ∀ g ∈ G, Unit1 n g) (hm : minL G = G) : srG n (cxI n G) = G := by
  have A := (cx_cxI n G).asc
  rw [← min_srG A, ← hm]
  conv => rhs; rw [← hm]
  rw [hm]
  refine min_ext (n := n) (fun a ha => (unit_srG a ha).1) (fun a ha => (hG a ha).1) fun c hc => ?_
  rw [min_srG A, hm]
  by_cases h : NN n c
  · have a1 := asc_supp c
    have a2 := low_supp h.1
    rw [unit_in unit_srG h, unit_in hG h, in_sr A a1 a2, faces_cxI hG a1 a2, inL_false, Classical.not_not]
  · rw [neg_in unit_srG hc h, neg_in hG hc h]
/-- one generator doubled: not squarefree any more -/
theorem dbl_no {n : Nat} {G : List (List Int)} (hG : ∀ g ∈ G, Unit1 n g) (hm : minL G = G) {i : Nat} (hi : i < G.length) (h0 : 0 < G[i].sum) : ¬ ∀ x ∈ minL (G.set i (G[i].map fun e => 2 * e)), Unit1 n x := by
  intro hall
  have hg := List.getElem_mem hi
  have u := hG _ hg
  have ld : (G[i].map fun e => 2 * e).length = n := by rw [List.length_map]; exact u.1
  have gdd : ∀ j < n, gd (G[i].map fun e => 2 * e) j = 2 * gd G[i] j := fun j hj => by
    rw [← gd_eq (by rw [ld]; exact hj), List.getElem_map, ← gd_eq (by rw [u.1]; exact hj)]
  obtain ⟨j, hj, hp⟩ : ∃ j < n, 0 < gd G[i] j := by
    refine Classical.byContradiction fun z => ?_
    have : G[i] = List.replicate n 0 := (gd_ext u.1 List.length_replicate).mpr fun j hj => by
      rw [gd_rep hj]
      rcases u.2 j hj with e | e
      · exact e
      · exact absurd ⟨j, hj, by omega⟩ z
    rw [this] at h0
    simp at h0
  have lS : ∀ s ∈ G.set i (G[i].map fun e => 2 * e), s.length = n := fun s hs => by
    rcases List.mem_or_eq_of_mem_set hs with z | z
    · exact (hG s z).1
    · rw [z]; exact ld
  have M := mins_minL lS
  obtain ⟨r, hr, hd⟩ := M.cov _ (List.mem_set hi _)
  rcases List.mem_or_eq_of_mem_set (min_sub r hr) with z | z
  · -- another generator
    obtain ⟨k, hk, ek⟩ := List.mem_iff_getElem.mp z
    have ur := hG r z
    have hd2 : divB r G[i] = true := (divB_iff ur.1 u.1).mpr fun j hj => by
      have h1 := (divB_iff ur.1 ld).mp hd j hj
      rw [gdd j hj] at h1
      rcases ur.2 j hj with a | a <;> rcases u.2 j hj with b | b <;> omega
    have e : r = G[i] := by
      have M2 := mins_minL (n := n) (fun s hs => (hG s hs).1) (S := G)
      rw [hm] at M2
      exact M2.anti r z _ hg hd2
    have := hall r hr
    -- then the generator itself stands in the list still: at another place, which the list's order bars
    obtain ⟨k2, hk2, ek2⟩ := List.mem_iff_getElem.mp (min_sub r hr)
    rw [List.length_set] at hk2
    rw [List.getElem_set] at ek2
    split at ek2
    · have e3 := gdd j hj
      rw [ek2, e] at e3
      omega
    · have nd : G.Nodup := by rw [← hm]; exact ris_nodup (mins_minL (n := n) fun s hs => (hG s hs).1).ris
      have := (List.getElem_inj (h₀ := hk2) (h₁ := hi) nd).mp (ek2.trans e)
      omega
  · have ux := hall r hr
    rw [z] at ux
    rcases ux.2 j hj with a | a <;> rw [gdd j hj] at a <;> omega
end UC
end
section
set_option Elab.async false
set_option linter.all false
set_option maxRecDepth 100000
set_option maxHeartbeats 1000000
namespace UC
open PySem L2 DL RD
end UC
end
section
set_option Elab.async false
set_option linter.all false
set_option maxRecDepth 100000
set_option maxHeartbeats 1000000
namespace UC
open PySem L2 DL RD
end UC
end
section
set_option Elab.async false
set_option linter.all false
set_option maxRecDepth 100000
set_option maxHeartbeats 1000000
namespace UC
open PySem L2 DL RD
end UC
end
section
set_option Elab.async false
set_option linter.all false
set_option maxRecDepth 100000
namespace U
open PySem L2 DL RD UC CpComb
def onesF (n : Nat) : List (List Int) := (List.range n).map fun (k : Nat) => [(k : Int)]
theorem lack11 : (lackN 11 (onesF 11) 12).length = 55 := by decide +kernel
theorem lack12 : (lackN 12 (onesF 12) 13).length = 66 := by decide +kernel
theorem asc_ones (n : Nat) : AscL (onesF n) := fun a ha => by
  obtain ⟨k, _, rfl⟩ := List.mem_map.mp ha
  exact List.pairwise_singleton _ _
theorem len_sr {v : Nat} {F : List (List Int)} (hF : AscL F) : (srG v F).length = (lackN v F (v + 1)).length := by
  have p : (srG v F).Perm ((lackN v F (v + 1)).map (xV v)) := (List.perm_ext_iff_of_nodup (ris_nodup (ris_srG v F)) (nodup_map_of (nodup_lackN v F _) fun a ha b hb e => by
    have h1 := lack_min.mp ha
    have h2 := lack_min.mp hb
    exact xV_inj h1.asc h1.low h2.asc h2.low e)).mpr fun g => by
      rw [mem_srG hF, List.mem_map]
      exact ⟨fun ⟨b, hb, e⟩ => ⟨b, lack_min.mpr hb, e.symm⟩, fun ⟨b, hb, e⟩ => ⟨b, lack_min.mp hb, e.symm⟩⟩
  rw [p.length_eq, List.length_map]
theorem sr11 : srE 11 (onesF 11) = .ok (idl 11 (srG 11 (onesF 11))) := if_neg (by rw [len_sr (asc_ones 11), lack11]; decide)
theorem sr12 : srE 12 (onesF 12) = .error ("TooMany", 60) := if_pos (by rw [len_sr (asc_ones 12), lack12]; decide)
theorem lk11 : (lackN 11 (onesF 11) (11 + 1)).length ≤ 3000 := Nat.le_trans (Nat.le_of_eq lack11) (by decide)
theorem lk12 : (lackN 12 (onesF 12) (12 + 1)).length ≤ 3000 := Nat.le_trans (Nat.le_of_eq lack12) (by decide)
theorem ones_le (n : Nat) : ∀ f ∈ onesF n, f.length ≤ 7 := fun f hf => by
  obtain ⟨k, _, rfl⟩ := List.mem_map.mp hf
  show 1 ≤ 7
  decide
theorem len_ones (n : Nat) : (onesF n).length = n := by unfold onesF; rw [List.length_map, List.length_range]
theorem callN {v : Nat} {F : List (List Int)} {i : Int} (hi : i = (v : Int)) (h1 : 1 ≤ v) (h2 : v ≤ 12) (h3 : F.length ≤ 200) (h4 : ∀ f ∈ F, f.length ≤ 7) (h5 : AscL F) (h6 : (lackN v F (v + 1)).length ≤ 3000) (W : XWc) (s : Sto) (R : DV → Sto → Prop) (h : tellL (srE v F) W R s) : sp_ideal_of_complex_x W [.d (.int i), .d (.tuple (F.map TI))] s R := by
  subst hi
  exact ⟨v, F, rfl, h1, h2, h3, h4, h5, h6, h⟩
theorem call11 : ∀ (W : XWc) (s : Sto) (R : DV → Sto → Prop), tellL (srE 11 (onesF 11)) W R s → sp_ideal_of_complex_x W [.d (.int 11), .d (.tuple ((onesF 11).map TI))] s R := callN (v := 11) (F := onesF 11) (i := 11) rfl (by decide) (by decide) (by rw [len_ones]; decide) (ones_le 11) (asc_ones 11) lk11
theorem call12 : ∀ (W : XWc) (s : Sto) (R : DV → Sto → Prop), tellL (srE 12 (onesF 12)) W R s → sp_ideal_of_complex_x W [.d (.int 12), .d (.tuple ((onesF 12).map TI))] s R := callN (v := 12) (F := onesF 12) (i := 12) rfl (by decide) (by decide) (by rw [len_ones]; decide) (ones_le 12) (asc_ones 12) lk12
end U
end
section
set_option Elab.async false
set_option linter.all false
set_option maxRecDepth 100000
set_option maxHeartbeats 1000000
open PySem L2 DL RD UC
local macro_rules | `(tactic| walk_at "E") => `(tactic| (try simp only [qAsg, qRet, qDrop, qIfS, qTest, qAndT, qOrT, qNotT, qAndV, qOrV, qNotV, qIf, qOp, qUn, qChain, onB, qv, qc, qgN, qgT, qgCons, qgNil, qCons, qNil, qTup, qLst, qPar, qPar3, qAug, qCB, qCall, qLen, qTupleC, qListC, qMax2, qMin2, qIntC, qSum, qAny, qAll, qIsi, tyName, qAdd, qSub, qMul, qFdiv, qMod, qPow, qI2, qCmpI, qEq, qNe, qLt, qLe, qGt, qGe, qNeg, qIx, qDGet, qDIn, qDPut, qSl, qPart, qNoPart, qNext, qFor, qiSeq, qiRng1, qiRng2, qiZip, qiEnum, qLc, seqSrc, lsrc, titems, litems, sitems, fz, newL, List.getElem?_cons_zero, List.getElem?_cons_succ, List.set_cons_zero, List.set_cons_succ, if_true, if_false, Bool.false_eq_true, ite_true, ite_false, up_same, reduceIte, decide_true, decide_false, true_and, and_true]))
local macro_rules | `(tactic| walk_at "D") => `(tactic| (try simp only [qAsg, qRet, qDrop, qIfS, qTest, qAndT, qOrT, qNotT, qAndV, qOrV, qNotV, qIf, qOp, qUn, qChain, onB, qv, qc, qgN, qgT, qgCons, qgNil, qCons, qNil, qTup, qLst, qPar, qPar3, qAug, qCB, qCall, qLen, qTupleC, qListC, qMax2, qMin2, qIntC, qSum, qAny, qAll, qIsi, tyName, qAdd, qSub, qMul, qFdiv, qMod, qPow, qI2, qCmpI, qEq, qNe, qLt, qLe, qGt, qGe, qNeg, qIx, qDGet, qDIn, qDPut, qSl, qPart, qNoPart, qNext, qFor, qiSeq, qiRng1, qiRng2, qiZip, qiEnum, qLc, seqSrc, lsrc, titems, litems, sitems, fz, newL, List.getElem?_cons_zero, List.getElem?_cons_succ, List.set_cons_zero, List.set_cons_succ, if_true, if_false, Bool.false_eq_true, ite_true, ite_false, up_same, reduceIte, decide_true, decide_false, true_and, and_true, eqv_int, eqv_bool, eqv_TI, eqv_LI, eqv_TT, eqv_LT, eqv_nilL, eqv_nilT, shaped_TI, shaped_LI, shaped_TT, shaped_LT, shaped_int, shaped_bool, shaped_nilL, shaped_nilT, dints_map2, dbools_map2, datas_map, mkT_map, mkT_0, mkT_1, mkT_2, mkT_3, List.length_map, List.length_cons, List.length_nil, List.length_append, List.map_cons, List.map_nil, wipeD, Bool.not_true, Bool.not_false, eq_self, not_true_eq_false, not_false_eq_true, kitB_tt, kitB_ll, kitB_dd, kitB_bb, kitB_ib, kitB_ii, kitB_ss, kitB_tl, kitB_lt, Function.comp, datas, Option.map_some, List.cons_append, List.nil_append, CPow, le_size4, Int.toNat_natCast, rngD0, I_eq, Bo_eq, BS.qSortB, in_IT, in_IL, in_TT, in_TL, qNotN, qIsN, qSortD, qListRg, qDispT, keyX_TI, qGet, qiItems, qLockE, qLockS, qPop, qMaxDf, qLPut, qDNew, qListItems, qListDK, qLc2, qMax1, qMin1, qAppend, qExtend, tints_TI, dv_TI, Option.bind_some, qRetN, atI_0, atI_1, atI_2, mk_appT, mk_snocI, idl, rep_I, Option.map_none, eqv_idl, shaped_idl, Bool.and_self, Bool.true_and, Bool.and_true]))
local macro_rules | `(tactic| walk_at "F") => `(tactic| (try simp only [qAsg, qRet, qDrop, qIfS, qTest, qAndT, qOrT, qNotT, qAndV, qOrV, qNotV, qIf, qOp, qUn, qChain, onB, qv, qc, qgN, qgT, qgCons, qgNil, qCons, qNil, qTup, qLst, qPar, qPar3, qAug, qCB, qCall, qLen, qTupleC, qListC, qMax2, qMin2, qIntC, qSum, qAny, qAll, qIsi, tyName, qAdd, qSub, qMul, qFdiv, qMod, qPow, qI2, qCmpI, qEq, qNe, qLt, qLe, qGt, qGe, qNeg, qIx, qDGet, qDIn, qDPut, qSl, qPart, qNoPart, qNext, qFor, qiRng1, qiRng2, qiZip, qiEnum, qLc, fz, newL, List.getElem?_cons_zero, List.getElem?_cons_succ, List.set_cons_zero, List.set_cons_succ, if_true, if_false, Bool.false_eq_true, ite_true, ite_false, up_same, reduceIte, decide_true, decide_false, true_and, and_true, eqv_int, eqv_bool, eqv_TI, eqv_LI, eqv_TT, eqv_LT, eqv_nilL, eqv_nilT, shaped_TI, shaped_LI, shaped_TT, shaped_LT, shaped_int, shaped_bool, shaped_nilL, shaped_nilT, dints_map2, dbools_map2, datas_map, mkT_map, mkT_0, mkT_1, mkT_2, mkT_3, List.length_map, List.length_cons, List.length_nil, List.length_append, List.map_cons, List.map_nil, wipeD, Bool.not_true, Bool.not_false, eq_self, not_true_eq_false, not_false_eq_true, kitB_tt, kitB_ll, kitB_dd, kitB_bb, kitB_ib, kitB_ii, kitB_ss, kitB_tl, kitB_lt, Function.comp, datas, Option.map_some, List.cons_append, List.nil_append, CPow, le_size4, Int.toNat_natCast, rngD0, I_eq, Bo_eq, BS.qSortB, in_IT, in_IL, in_TT, in_TL, qNotN, qIsN, qSortD, qListRg, qDispT, keyX_TI, qGet, qiItems, qLockE, qLockS, qPop, qMaxDf, qLPut, qDNew, qListItems, qListDK, qLc2, qMax1, qMin1, qAppend, qExtend, tints_TI, dv_TI, Option.bind_some, qRetN, atI_0, atI_1, atI_2, mk_appT, mk_snocI, idl, rep_I, Option.map_none, eqv_idl, shaped_idl, Bool.and_self, Bool.true_and, Bool.and_true]))
namespace U
open PySem L2 DL RD UC CpComb
theorem ok_TT7 {v : Nat} {F : List (List Int)} (h : IsCx v F) (hv : v ≤ 7) (hl : F.length ≤ 1000) : reprOk (TT F) := by
  refine (shw_tup (n := 7) (k := 8000) (fun x hx => ?_) (by rw [List.length_map]; omega)).ok (by decide) (depth_TT F)
  obtain ⟨a, ha, rfl⟩ := List.mem_map.mp hx
  have l1 := asc_long (h.asc a ha) (h.low a ha)
  exact shw_TI ⟨by omega, fun y hy => by have := h.low a ha y hy; omega⟩
theorem len_srG {v : Nat} (h1 : 1 ≤ v) (hv : v ≤ 6) {F : List (List Int)} (hF : AscL F) : (srG v F).length ≤ 32 := by
  have := anti_lenN (w := 1) h1 (min_srG (v := v) hF) fun a ha => mon_unit (unit_srG a ha)
  exact Nat.le_trans this (Nat.le_trans (Nat.pow_le_pow_right (by decide) (show v - 1 ≤ 5 by omega)) (by decide))
theorem ok_idl {v : Nat} {G : List (List Int)} (hG : ∀ g ∈ G, Unit1 v g) (hv : v ≤ 6) (hl : G.length ≤ 1000) : reprOk (idl v G) := by
  refine (shw_tup (n := 8000) (k := 16002) (fun x hx => ?_) (by simp)).ok (by decide) ?_
  · rcases List.mem_cons.mp hx with rfl | hx
    · exact (shw_int ⟨by omega, by omega⟩).mono (by decide)
    · rw [List.mem_singleton.mp hx]
      refine shw_tup (n := 7) (fun x hx => ?_) (by rw [List.length_map]; omega)
      obtain ⟨a, ha, rfl⟩ := List.mem_map.mp hx
      have hm := mon_unit (hG a ha)
      exact shw_TI ⟨by rw [hm.1]; omega, fun y hy => by have := hm.2 y hy; constructor <;> omega⟩
  · have : (idl v G).depth ≤ 4 := (sh_tuple (n := 3) (l := [.int v, TT G]) fun x hx => by
      simp only [List.mem_cons, List.not_mem_nil, or_false] at hx
      rcases hx with rfl | rfl
      · exact sh_int
      · exact sh_TT).2
    exact Nat.le_trans this (by decide)
def sp_law_squarefree : SpD := fun xs st Q => ∃ (a : Addr) (n cnt B : Nat), xs = [.r a, I n, I cnt] ∧ 1 ≤ n ∧ n ≤ 100 ∧ cnt ≤ 60 ∧ B + 20000 < 2 ^ 50 ∧ DrawSt st a B ∧
  ∀ (L : List (List Int)) st', Idl n 1 cnt L → (∀ t ∈ L, 0 < t.sum) → DrawSt st' a (B + 20000) → Q (.d (idl n L)) st'
theorem len_law_squarefree : ∀ xs st Q, sp_law_squarefree xs st Q → xs.length = 3 := by rintro xs st Q ⟨a, n, c, B, rfl, _⟩; rfl
theorem sem_law_squarefree : ∀ xs st Q, sp_law_squarefree xs st Q → rd_law_squarefree sp_law_ideal { nx := fun _ st' => Fg Q (.d .none) st', rt := Fg Q } (startD 3 xs) st := by
  rintro xs st Q ⟨m, n, cnt, B, rfl, h1, hn, hc, hB, D, K⟩
  have e0 : startD 3 [.r m, I n, I cnt] = [some (.r m), some (I n), some (I cnt)] := rfl
  rw [e0]
  unfold rd_law_squarefree
  walk_at "D"
  exact ⟨m, n, cnt, 1, B, rfl, h1, hn, hc, by decide, by decide, hB, D, fun L s hL hp D2 _ => fg_ret (K L s hL hp D2)⟩
def sp_law_monomial_of : SpD := fun xs st Q => ∃ (v : Nat) (b : List Int), xs = [I v, .d (TI b)] ∧ v ≤ 1000 ∧ Q (.d (TI (xV v b))) st
theorem len_law_monomial_of : ∀ xs st Q, sp_law_monomial_of xs st Q → xs.length = 2 := by rintro xs st Q ⟨v, b, rfl, _⟩; rfl
theorem sem_law_monomial_of : ∀ xs st Q, sp_law_monomial_of xs st Q → rd_law_monomial_of { nx := fun _ st' => Fg Q (.d .none) st', rt := Fg Q } (startD 3 xs) st := sem_product_of_vertices
def sp_law_outside : SpD := fun xs st Q => ∃ (n : Nat) (G : List (List Int)), xs = [.d (idl n G)] ∧ n ≤ 6 ∧ G.length ≤ 1000 ∧ (∀ g ∈ G, g.length = n) ∧ Q (.d (TT (cxI n G))) st
theorem len_law_outside : ∀ xs st Q, sp_law_outside xs st Q → xs.length = 1 := by rintro xs st Q ⟨v, F, rfl, _⟩; rfl
theorem sem_law_outside : ∀ xs st Q, sp_law_outside xs st Q → rd_law_outside sp_law_subsets sp_law_monomial_of sp_law_in sp_law_facets { nx := fun _ st' => Fg Q (.d .none) st', rt := Fg Q } (startD 5 xs) st := by
  rintro xs st Q ⟨n, G, rfl, hn, hl, lG, K⟩
  have e0 : startD 5 [.d (idl n G)] = [some (.d (idl n G)), none, none, none, none] := rfl
  rw [e0]
  unfold rd_law_outside
  refine seq fun N hN => ?_
  walk_at "D"
  refine hN _ _ ?_; clear hN N
  refine seq fun N hN => ?_
  walk_at "D"
  refine ⟨by omega, by omega, ?_⟩
  rw [rng_dv]
  simp only [datas_map]
  refine ⟨_, rangeI n, rfl, rfl, by simp only [List.length_map, List.length_range]; omega, fun x s1 le hr hx _ => ?_⟩
  refine hN _ _ ?_; clear hN N
  obtain ⟨inv, hsrc, hinv⟩ := src_of2 hx
  have hS : (subsL (rangeI n)).length ≤ 64 := by
    rw [len_subs, List.length_map, List.length_range]
    exact Nat.le_trans (Nat.pow_le_pow_right (by decide) hn) (by decide)
  walk_at "F"
  simp only [qiSeq, qv, List.getElem?_cons_zero, List.getElem?_cons_succ, hsrc]
  refine ⟨by rw [List.length_map, List.length_map, sizeL]; omega, ?_⟩
  rw [List.map_map]
  refine comp_fmT _ (fun a => !inL G (xV n a)) (fun a => .d (TI a)) (hinv s1 hx) _ _ ?_ ?_
  · intro a ha Q1 Q2 h
    walk_at "D"
    refine ⟨n, a, rfl, by omega, ?_⟩
    refine ⟨G, xV n a, n, rfl, hl, by omega, lG, len_xV, ?_⟩
    walk_at "D"
    exact h
  rw [tis_dv0]
  have hf := List.length_filter_le (fun a => !inL G (xV n a)) (subsL (rangeI n))
  walk_at "D"
  refine ⟨_, _, rfl, rfl, by omega, fun a ha => ?_, ?_⟩
  · have := (mem_subs.mp (List.mem_filter.mp ha).1).length_le
    rw [List.length_map, List.length_range] at this
    omega
  · exact fg_le le K
def sp_law_lacking : SpD := fun xs st Q => ∃ (v : Nat) (F : List (List Int)), xs = [I v, .d (TT F)] ∧ v ≤ 6 ∧ F.length ≤ 10 ∧ (∀ f ∈ F, f.length ≤ 7) ∧ Q (.d (LT (sortU (lawLack v F)))) st
theorem len_law_lacking : ∀ xs st Q, sp_law_lacking xs st Q → xs.length = 2 := by rintro xs st Q ⟨v, F, rfl, _⟩; rfl
theorem sem_law_lacking : ∀ xs st Q, sp_law_lacking xs st Q → rd_law_lacking sp_law_faces sp_law_subsets sp_law_inside { nx := fun _ st' => Fg Q (.d .none) st', rt := Fg Q } (startD 6 xs) st := by
  rintro xs st Q ⟨v, F, rfl, hv, hl, h7, K⟩
  have e0 : startD 6 [I v, .d (TT F)] = [some (I v), some (.d (TT F)), none, none, none, none] := rfl
  rw [e0]
  unfold rd_law_lacking
  refine seq fun N hN => ?_
  walk_at "D"
  refine ⟨F, rfl, hl, h7, ?_⟩
  refine hN _ _ ?_; clear hN N
  refine seq fun N hN => ?_
  walk_at "D"
  refine ⟨by omega, by omega, ?_⟩
  rw [rng_dv]
  simp only [datas_map]
  refine ⟨_, rangeI v, rfl, rfl, by simp only [List.length_map, List.length_range]; omega, fun x s1 le hr hx _ => ?_⟩
  obtain ⟨inv, hsrc, hinv⟩ := src_of2 hx
  have hS : (subsL (rangeI v)).length ≤ 64 := by
    rw [len_subs, List.length_map, List.length_range]
    exact Nat.le_trans (Nat.pow_le_pow_right (by decide) hv) (by decide)
  simp only [seqSrc, titems, lsrc] at hsrc
  simp only [hsrc]
  refine ⟨by rw [List.length_map, List.length_map, sizeL]; omega, ?_⟩
  rw [List.map_map]
  refine comp_fmT _ (fun a => !decide (a ∈ facesF F)) (fun a => .d (TI a)) (hinv s1 hx) _ _ ?_ ?_
  · intro a ha Q1 Q2 h
    walk_at "D"
    exact h
  rw [tis_dv0, show (subsL (rangeI v)).filter (fun a => !decide (a ∈ facesF F)) = lawNF v F from rfl]
  have hN6 := len_lawNF hv F
  have hle : ∀ a ∈ lawNF v F, a.length ≤ 6 := fun a ha => by
    have := (mem_subs.mp (List.mem_filter.mp ha).1).length_le
    rw [List.length_map, List.length_range] at this
    omega
  walk_at "D"
  refine hN _ _ ?_; clear hN N
  walk_at "D"
  refine ⟨by rw [sizeL]; omega, ?_⟩
  rw [List.map_map]
  refine comp_fmT _ (fun a => decide ((lawNF v F).filter (fun b => decide (b ≠ a) && insB b a) = [])) (fun a => .d (TI a)) trivial _ _ ?_ ?_
  · intro a ha Q1 Q2 h
    walk_at "D"
    refine ⟨by rw [sizeL]; omega, ?_⟩
    rw [List.map_map]
    refine comp_fmT _ (fun b => decide (b ≠ a) && insB b a) (fun b => .d (TI b)) trivial _ _ ?_ ?_
    · intro b hb Q3 Q4 h3
      walk_at "D"
      by_cases e : b = a
      · simp only [e, decide_true, ne_eq, not_true_eq_false, decide_false, Bool.false_and, Bool.not_true] at h3 ⊢
        walk_at "D"
        exact h3
      · simp only [e, decide_false, ne_eq, not_false_eq_true, decide_true, Bool.true_and, Bool.not_false] at h3 ⊢
        walk_at "D"
        refine ⟨b, a, _, rfl, .inl rfl, by have := hle b hb; omega, ?_⟩
        walk_at "D"
        exact h3
    · rw [tis_dv0]
      walk_at "D"
      exact ⟨by decide, h⟩
  rw [tis_dv0, show (lawNF v F).filter (fun a => decide ((lawNF v F).filter (fun b => decide (b ≠ a) && insB b a) = [])) = lawLack v F from rfl]
  have hf : (lawLack v F).length ≤ (lawNF v F).length := List.length_filter_le _ _
  walk_at "D"
  refine ⟨alikeC _, sortXC _, by omega, depthC, ?_⟩
  rw [sortC (nodup_lawLack v F)]
  walk_at "D"
  exact fg_le le K
theorem unit_mon {n : Nat} {g : List Int} (h : Mon n 1 g) : Unit1 n g := ⟨h.1, fun j hj => by
  have := h.2 _ (gd_mem (a := g) (j := j) (by rw [h.1]; exact hj))
  omega⟩
theorem ixN_at {n i : Nat} (h : i < n) : ixN n (i : Int) = some i := by
  unfold ixN
  rw [if_pos (by omega), if_pos (by omega), Int.toNat_natCast]
theorem ok_first : reprOk (.list [idl 2 [[0, 0]], idl 2 [[0, 1], [1, 0]], TT [[0, 1]], TT []]) := by
  refine (shw_lst (n := 1000) (k := 10000) (fun x hx => ?_) (by decide)).ok (by decide) (by decide +kernel)
  have sI : ∀ i : Int, 0 ≤ i → i ≤ 2 → Shw 0 (.int i) := fun i h1 h2 => shw_int ⟨by omega, by omega⟩
  have sT : ∀ a : List Int, a.length ≤ 2 → (∀ y ∈ a, 0 ≤ y ∧ y ≤ 1) → Shw 7 (TI a) := fun a h1 h2 => shw_TI ⟨by omega, fun y hy => by have := h2 y hy; constructor <;> omega⟩
  have sTT : ∀ G : List (List Int), G.length ≤ 2 → (∀ a ∈ G, a.length ≤ 2 ∧ ∀ y ∈ a, 0 ≤ y ∧ y ≤ 1) → Shw 100 (TT G) := fun G h1 h2 => shw_tup (n := 7) (fun x hx => by
    obtain ⟨a, ha, rfl⟩ := List.mem_map.mp hx
    exact sT a (h2 a ha).1 (h2 a ha).2) (by rw [List.length_map]; omega)
  have sD : ∀ G : List (List Int), G.length ≤ 2 → (∀ a ∈ G, a.length ≤ 2 ∧ ∀ y ∈ a, 0 ≤ y ∧ y ≤ 1) → Shw 1000 (idl 2 G) := fun G h1 h2 => shw_tup (n := 100) (fun x hx => by
    rcases List.mem_cons.mp hx with rfl | hx
    · exact (sI 2 (by decide) (by decide)).mono (by decide)
    · rw [List.mem_singleton.mp hx]; exact sTT G h1 h2) (by simp)
  simp only [List.mem_cons, List.not_mem_nil, or_false] at hx
  rcases hx with rfl | rfl | rfl | rfl
  · exact sD _ (by decide) (by decide)
  · exact sD _ (by decide) (by decide)
  · exact (sTT _ (by decide) (by decide)).mono (by decide)
  · exact (sTT _ (by decide) (by decide)).mono (by decide)
theorem sr2a : srE 2 [] = .ok (idl 2 [[0, 0]]) := by
  have e : srG 2 [] = [[0, 0]] := by decide +kernel
  unfold srE
  rw [e]
  rfl
theorem sr2b : srE 2 [[]] = .ok (idl 2 [[0, 1], [1, 0]]) := by
  have e : srG 2 [[]] = [[0, 1], [1, 0]] := by decide +kernel
  unfold srE
  rw [e]
  rfl
theorem lim_ok (v : PyData) : limV (.ok v) = .none := rfl
theorem lim_err (x : Str) (i : Int) : limV (.error (x, i)) = .int i := rfl
theorem ones_dv (n : Nat) : ([] : List DV) ++ (List.range n).map (fun (k : Nat) => DV.d (.tuple [.int (k : Int)])) = ((onesF n).map TI).map .d := by
  unfold onesF
  rw [List.nil_append, List.map_map, List.map_map]
  rfl
def sp_law_right : SpD := fun xs st Q => ∃ (m : Addr) (B : Nat), xs = [.r m] ∧ B + 30000 < 2 ^ 50 ∧ DrawSt st m B ∧ ∀ st', Q (Bo true) st'
theorem len_law_right : ∀ xs st Q, sp_law_right xs st Q → xs.length = 1 := by rintro xs st Q ⟨m, B, rfl, _⟩; rfl
theorem sem_law_right : ∀ xs st Q, sp_law_right xs st Q → rd_law_right sp_law_draw sp_law_complex sp_law_lacking sp_law_monomial_of (sp_ideal_of_complex_x noX) sp_check_ideal (sp_complex_of_ideal_x noX) sp_law_squarefree sp_law_outside sp_law_least sp_law_refused { nx := fun _ st' => Fg Q (.d .none) st', rt := Fg Q } (startD 10 xs) st := by
  rintro xs st Q ⟨m, B, rfl, hB, D, K⟩
  have e0 : startD 10 [.r m] = [some (.r m), none, none, none, none, none, none, none, none, none] := rfl
  rw [e0]
  unfold rd_law_right
  refine seq fun N hN => ?_
  walk_at "D"
  refine draw D (by omega) (by omega) (by omega) fun z s1 l1 u1 D1 _ => ?_
  walk_at "D"
  obtain ⟨v, hv⟩ : ∃ v : Nat, 1 + z = (v : Int) := ⟨(1 + z).toNat, by omega⟩
  rw [hv]
  refine hN _ _ ?_; clear hN N
  refine seq fun N hN => ?_
  walk_at "D"
  refine ⟨m, v, _, rfl, by omega, by omega, D1, fun F s2 hF lF D2 => ?_⟩
  refine hN _ _ ?_; clear hN N
  refine seq fun N hN => ?_
  walk_at "D"
  have l7 : ∀ f ∈ F, f.length ≤ 7 := fun f hf => by have := asc_long (hF.asc f hf) (hF.low f hf); omega
  have n6 := len_lawNF (v := v) (by omega) F
  have n7 : (sortU (lawLack v F)).length ≤ 64 := Nat.le_trans (len_sortC _) (Nat.le_trans (List.length_filter_le _ _) n6)
  refine ⟨v, F, rfl, by omega, by omega, l7, ?_⟩
  walk_at "D"
  refine ⟨by rw [sizeL]; omega, ?_⟩
  rw [List.map_map]
  refine comp_mapT _ (fun c => .d (TI (xV v c))) trivial _ _ ?_ ?_
  · intro c hc Q1 h
    walk_at "D"
    exact ⟨v, c, rfl, by omega, h⟩
  have e1 : [] ++ (sortU (lawLack v F)).map (fun c => DV.d (TI (xV v c))) = (((sortU (lawLack v F)).map (xV v)).map TI).map .d := by
    rw [List.nil_append, List.map_map, List.map_map]
    rfl
  rw [e1]
  walk_at "D"
  refine ⟨alikeC _, sortXC _, by omega, depthC, by decide, ?_⟩
  rw [sortC (nodup_due hF.asc), law_due hF.asc]
  refine hN _ _ ?_; clear hN N
  have lS := len_srG (v := v) (by omega) (by omega) hF.asc
  have okD := ok_idl (v := v) (G := srG v F) unit_srG (by omega) (by omega)
  have okF := ok_TT7 hF (by omega) (by omega)
  have lk : (lackN v F (v + 1)).length ≤ 3000 := by
    have := len_lackN (v := v) (by omega) F (v + 1)
    omega
  have eR : srE v F = .ok (idl v (srG v F)) := if_neg (by omega)
  have iD : Ideal v (srG v F) := ⟨by omega, by omega, min_srG hF.asc, by omega, fun g hg => (mon_unit (unit_srG g hg)).mono (by decide)⟩
  obtain ⟨Y, hY⟩ : ∃ Y : PyData, Y = idl v (srG v F) := ⟨_, rfl⟩
  have hYs : ∀ x, Y ≠ .str x := fun x h => by rw [hY] at h; exact nomatch h
  have call1 : ∀ (s : Sto) (R : DV → Sto → Prop), R (.d Y) s → sp_ideal_of_complex_x noX [.d (.int v), .d (TT F)] s R := fun s R h => ⟨v, F, rfl, by omega, by omega, by omega, l7, hF.asc, lk, by rw [eR, ← hY]; exact h⟩
  have call2 : ∀ (s : Sto) (R : DV → Sto → Prop), R (.d Y) s → sp_check_ideal [.d Y] s R := fun s R h => ⟨srG v F, v, by rw [hY], iD, by rw [← hY]; exact h⟩
  have call3 : ∀ (s : Sto) (R : DV → Sto → Prop), R (.d (TT F)) s → sp_complex_of_ideal_x noX [.d Y] s R := fun s R h => ⟨v, srG v F, by rw [hY], by omega, by omega, by omega, fun g hg => (unit_srG g hg).nn, fun _ => by rw [cxI_sr hF]; exact h, fun z => absurd unit_srG z⟩
  rw [show PyData.tuple [PyData.int ↑v, PyData.tuple ((srG v F).map TI)] = Y from hY.symm]
  rw [← hY] at okD
  refine seq fun N hN => ?_
  walk_at "D"
  refine call1 _ _ ?_
  refine go_repr okD hYs ?_
  refine go_repr okD hYs ?_
  refine go_neS ?_
  walk_at "D"
  refine call2 _ _ ?_
  refine go_repr okD hYs ?_
  refine go_repr okD hYs ?_
  refine go_neS ?_
  walk_at "D"
  refine hN _ _ ?_; clear hN N
  refine seq fun N hN => ?_
  walk_at "D"
  refine call3 _ _ ?_
  refine go_repr okF (fun x h => nomatch h) ?_
  refine go_repr okF (fun x h => nomatch h) ?_
  refine go_neS ?_
  walk_at "D"
  refine hN _ _ ?_; clear hN N
  refine seq fun N hN => ?_
  walk_at "D"
  refine draw D2 (by omega) (by omega) (by omega) fun z2 s3 l3 u3 D3 _ => ?_
  walk_at "D"
  obtain ⟨n, hn⟩ : ∃ n : Nat, 1 + z2 = (n : Int) := ⟨(1 + z2).toNat, by omega⟩
  rw [hn]
  refine ⟨m, n, 6, _, rfl, by omega, by omega, by decide, by omega, D3, fun G s4 hG hpos D4 => ?_⟩
  refine hN _ _ ?_; clear hN N
  refine seq fun N hN => ?_
  walk_at "D"
  have uG : ∀ g ∈ G, Unit1 n g := fun g hg => unit_mon (hG.2.2 g hg)
  have lG : ∀ g ∈ G, g.length = n := fun g hg => (hG.2.2 g hg).1
  have cG : G.length ≤ 6 := hG.2.1
  have X := cx_cxI n G
  have lX : (cxI n G).length ≤ 64 := Nat.le_trans (len_maxF _) (Nat.le_trans (List.length_filter_le _ _) (by
    rw [len_subs, List.length_map, List.length_range]
    exact Nat.le_trans (Nat.pow_le_pow_right (by decide) (show n ≤ 6 by omega)) (by decide)))
  have x7 : ∀ f ∈ cxI n G, f.length ≤ 7 := fun f hf => by have := asc_long (X.asc f hf) (X.low f hf); omega
  have okX := ok_TT7 X (by omega) (by omega)
  have okG := ok_idl uG (by omega) (by omega : G.length ≤ 1000)
  have lk2 : (lackN n (cxI n G) (n + 1)).length ≤ 3000 := by
    have := len_lackN (v := n) (by omega) (cxI n G) (n + 1)
    omega
  have eS := sr_cxI uG hG.1
  have eR2 : srE n (cxI n G) = .ok (idl n G) := by
    unfold srE
    rw [eS]
    exact if_neg (by omega)
  refine ⟨n, G, rfl, by omega, by omega, lG, ?_⟩
  refine hN _ _ ?_; clear hN N
  have call4 : ∀ (s : Sto) (R : DV → Sto → Prop), R (.d (TT (cxI n G))) s → sp_complex_of_ideal_x noX [.d (.tuple [.int n, TT G])] s R := fun s R h => ⟨n, G, rfl, by omega, by omega, by omega, fun g hg => (uG g hg).nn, fun _ => h, fun z => absurd uG z⟩
  have call5 : ∀ (s : Sto) (R : DV → Sto → Prop), R (.d (.tuple [.int n, TT G])) s → sp_ideal_of_complex_x noX [.d (.int n), .d (TT (cxI n G))] s R := fun s R h => ⟨n, cxI n G, rfl, by omega, by omega, by omega, x7, X.asc, lk2, by rw [eR2]; exact h⟩
  refine seq fun N hN => ?_
  walk_at "D"
  refine call4 _ _ ?_
  refine go_repr okX (fun x h => nomatch h) ?_
  refine go_repr okX (fun x h => nomatch h) ?_
  refine go_neS ?_
  walk_at "D"
  refine call5 _ _ ?_
  refine go_repr okG (fun x h => nomatch h) ?_
  refine go_repr okG (fun x h => nomatch h) ?_
  refine go_neS ?_
  walk_at "D"
  refine hN _ _ ?_; clear hN N
  refine seq fun N hN => ?_
  walk_at "D"
  have last : ∀ ε s', N ε s' := fun ε s' => by
    refine hN _ _ ?_
    walk_at "D"
    exact fg_ret (K _)
  refine ⟨by decide, ?_⟩
  by_cases c : G = []
  · rw [if_neg (by rw [decide_eq_true c]; decide)]
    exact last _ _
  rw [if_pos (by rw [decide_eq_false c]; rfl)]
  have c1 : 1 ≤ G.length := by
    cases G with
    | nil => exact absurd rfl c
    | cons _ _ => simp
  refine seq fun N2 hN2 => ?_
  walk_at "D"
  refine draw D4 (by omega) (by omega) (by omega) fun z3 s5 l5 u5 D5 _ => ?_
  obtain ⟨i, rfl⟩ : ∃ i : Nat, z3 = (i : Int) := ⟨z3.toNat, by omega⟩
  have hi : i < G.length := by omega
  refine hN2 _ _ ?_; clear hN2 N2
  refine seq fun N2 hN2 => ?_
  walk_at "D"
  refine fun q hq => hN2 _ _ ?_; clear hN2 N2
  refine seq fun N2 hN2 => ?_
  walk_at "D"
  simp only [atI_map2 (f := TI) hi]
  have gu := uG _ (List.getElem_mem hi)
  have gp := hpos _ (List.getElem_mem hi)
  walk_at "D"
  refine ⟨by rw [sizeL, gu.1]; omega, ?_⟩
  rw [List.map_map]
  refine comp_mapT _ (fun e => I (2 * e)) trivial _ _ ?_ ?_
  · intro e he Q1 h
    walk_at "D"
    exact ⟨.inl (.inl ⟨by decide, by decide⟩), h⟩
  rw [ints_dv0]
  walk_at "D"
  refine ⟨_, i, rfl, ixN_at (by rw [List.length_map, List.length_map]; exact hi), hN2 _ _ ?_⟩; clear hN2 N2
  rw [up_up]
  have eS2 : ((G.map TI).map DV.d).set i (DV.d (PyData.tuple ((G[i].map fun e => 2 * e).map PyData.int))) = ((G.set i (G[i].map fun e => 2 * e)).map TI).map .d := by
    rw [List.map_set, List.map_set]
  rw [show List.map (HMul.hMul 2) G[i] = G[i].map fun e => 2 * e from rfl, eS2]
  have no := dbl_no uG hG.1 hi gp
  have mT : ∀ t ∈ G.set i (G[i].map fun e => 2 * e), Mon n 2 t := fun t ht => by
    rcases List.mem_or_eq_of_mem_set ht with z | z
    · exact (hG.2.2 t z).mono (by decide)
    · rw [z]
      refine ⟨by rw [List.length_map]; exact gu.1, fun x hx => ?_⟩
      obtain ⟨e, he, rfl⟩ := List.mem_map.mp hx
      have := (hG.2.2 _ (List.getElem_mem hi)).2 e he
      omega
  have lT : (G.set i (G[i].map fun e => 2 * e)).length = G.length := List.length_set ..
  generalize G.set i (G[i].map fun e => 2 * e) = S at no mT lT
  walk_at "D"
  refine ⟨.r q, S, n, 2, rfl, by simp only [sitems, titems, litems, up_same], ⟨by omega, by omega, by omega, mT⟩, ?_⟩
  refine ⟨by decide, n, minL S, rfl, by omega, by omega, by have := min_len S; omega, fun g hg => (mT g (min_sub g hg)).nn, no, ?_⟩
  walk_at "D"
  exact last _ _
def sp_law : SpD := fun xs st Q => ∃ ns : List Int, xs = [.d (.list (ns.map .int))] ∧ ns.length ≤ 63 ∧ ∀ st', Q (Bo true) st'
theorem len_law : ∀ xs st Q, sp_law xs st Q → xs.length = 1 := by rintro xs st Q ⟨a, rfl, _⟩; rfl
theorem law_true : ∀ ns : List Int, ns.length ≤ 63 → sp_law [.d (.list (ns.map .int))] (fun _ => none) (fun x _ => x = .d (.bool true)) := fun ns h => ⟨ns, rfl, h, fun _ => rfl⟩
theorem sem_law : ∀ xs st Q, sp_law xs st Q → rd_law sp_ideal_of_complex_x sp_complex_of_ideal_x sp_law_begun sp_law_right { nx := fun _ st' => Fg Q (.d .none) st', rt := Fg Q } (startD 4 xs) st := by
  rintro xs st Q ⟨ns, rfl, hns, K⟩
  have e0 : startD 4 [.d (.list (ns.map .int))] = [some (.d (.list (ns.map .int))), none, none, none] := rfl
  rw [e0]
  unfold rd_law
  refine seq fun N hN => ?_
  walk_at "D"
  have c2a : ∀ (s : Sto) (R : DV → Sto → Prop), R (.d (idl 2 [[0, 0]])) s → sp_ideal_of_complex_x noX [.d (.int 2), .d (.tuple [])] s R := fun s R h => ⟨2, [], rfl, by decide, by decide, by decide, (fun f hf => nomatch hf), (fun f hf => nomatch hf), by decide +kernel, by rw [sr2a]; exact h⟩
  have c2b : ∀ (s : Sto) (R : DV → Sto → Prop), R (.d (idl 2 [[0, 1], [1, 0]])) s → sp_ideal_of_complex_x noX [.d (.int 2), .d (.tuple [.tuple []])] s R := fun s R h => ⟨2, [[]], rfl, by decide, by decide, by decide, by decide, (fun f hf => by rw [List.mem_singleton.mp hf]; exact List.Pairwise.nil), by decide +kernel, by rw [sr2b]; exact h⟩
  have c2c : ∀ (s : Sto) (R : DV → Sto → Prop), R (.d (TT [[0, 1]])) s → sp_complex_of_ideal_x noX [.d (.tuple [.int 2, .tuple []])] s R := fun s R h => ⟨2, [], rfl, by decide, by decide, by decide, (fun f hf => nomatch hf), fun _ => by rw [show cxI 2 [] = [[0, 1]] by decide +kernel]; exact h, fun z => absurd (fun g hg => nomatch hg) z⟩
  have c2d : ∀ (s : Sto) (R : DV → Sto → Prop), R (.d (TT [])) s → sp_complex_of_ideal_x noX [.d (.tuple [.int 2, .tuple [.tuple [.int 0, .int 0]]])] s R := fun s R h => by
    have u : ∀ g ∈ [[(0 : Int), 0]], Unit1 2 g := fun g hg => by rw [List.mem_singleton.mp hg]; exact ⟨rfl, by decide⟩
    exact ⟨2, [[0, 0]], rfl, by decide, by decide, by decide, fun g hg => (u g hg).nn, fun _ => by rw [show cxI 2 [[0, 0]] = [] by decide +kernel]; exact h, fun z => absurd u z⟩
  refine ⟨by decide, c2a _ _ ?_⟩
  refine ⟨by decide, by decide, c2b _ _ ?_⟩
  walk_at "D"
  refine ⟨by decide, ?_⟩
  refine hN _ _ ?_; clear hN N
  refine seq fun N hN => ?_
  walk_at "D"
  refine ⟨by decide, by decide, c2c _ _ ?_⟩
  refine ⟨by decide, by decide, by decide, c2d _ _ ?_⟩
  walk_at "D"
  refine ⟨by decide, ?_⟩
  have okT := ok_first
  obtain ⟨Y, hY⟩ : ∃ Y : PyData, Y = .list [idl 2 [[0, 0]], idl 2 [[0, 1], [1, 0]], TT [[0, 1]], TT []] := ⟨_, rfl⟩
  have hYs : ∀ x, Y ≠ .str x := fun x h => by rw [hY] at h; exact nomatch h
  rw [← hY] at okT
  change N [_, some (DV.d (.list [idl 2 [[0, 0]], idl 2 [[0, 1], [1, 0]], TT [[0, 1]], TT []])), _, _] _
  rw [← hY]
  refine hN _ _ ?_; clear hN N
  refine seq fun N hN => ?_
  walk_at "D"
  refine go_repr okT hYs ?_
  refine ⟨by decide, by decide, by decide, by decide, by decide, by decide, by decide, by decide, by decide, by decide, ?_⟩
  change qRepr [DV.d (.list [idl 2 [[0, 0]], idl 2 [[0, 1], [1, 0]], TT [[0, 1]], TT []])] _ _
  rw [← hY]
  refine go_repr okT hYs ?_
  refine go_neS ?_
  walk_at "D"
  refine hN _ _ ?_; clear hN N
  refine seq fun N hN => ?_
  walk_at "D"
  refine go_limit (srE 11 (onesF 11)) (fun x i e => by rw [sr11] at e; cases e) (fun Wc Q' h => ?_) ?_
  · simp only [qCallX]
    walk_at "D"
    refine ⟨by decide, by decide, by rw [List.length_range, sizeL]; omega, ?_⟩
    refine comp_mapT _ (fun (k : Nat) => DV.d (.tuple [.int (k : Int)])) trivial _ _ ?_ ?_
    · intro k hk Q1 h1
      walk_at "D"
      exact ⟨by decide, h1⟩
    rw [ones_dv]
    walk_at "D"
    refine call11 _ _ _ ?_
    rw [sr11] at h ⊢
    exact h
  rw [sr11, lim_ok]
  walk_at "D"
  refine hN _ _ ?_; clear hN N
  refine seq fun N hN => ?_
  walk_at "D"
  refine go_limit (srE 12 (onesF 12)) (fun x i e => by rw [sr12] at e; cases e; rfl) (fun Wc Q' h => ?_) ?_
  · simp only [qCallX]
    walk_at "D"
    refine ⟨by decide, by decide, by rw [List.length_range, sizeL]; omega, ?_⟩
    refine comp_mapT _ (fun (k : Nat) => DV.d (.tuple [.int (k : Int)])) trivial _ _ ?_ ?_
    · intro k hk Q1 h1
      walk_at "D"
      exact ⟨by decide, h1⟩
    rw [ones_dv]
    walk_at "D"
    refine call12 _ _ _ ?_
    rw [sr12] at h ⊢
    exact h
  rw [sr12, lim_err]
  walk_at "D"
  refine hN _ _ ?_; clear hN N
  refine seq fun N hN => ?_
  walk_at "D"
  obtain ⟨t, ht, ht2⟩ := turnsR ns.length 1 2 (by decide) (by decide)
  simp only [ht]
  refine ⟨by omega, by omega, ?_⟩
  walk_at "D"
  refine for_byT _ (fun _ ε s => ∃ x1 x2, ε = [some (.d (.list (ns.map .int))), x1, x2, none]) ⟨_, _, rfl⟩ (fun _ _ _ _ => trivial) ?_ ?_
  · rintro i k ε s hk ⟨x1, x2, rfl⟩ L hL
    obtain ⟨rfl, hi⟩ := range_some hk
    walk_at "D"
    refine begun hns (by omega) (by omega) fun m s1 D1 _ => ?_
    refine ⟨m, _, rfl, by omega, D1, fun s4 => ?_⟩
    walk_at "D"
    exact hL _ _ ⟨_, _, rfl⟩
  · rintro ε s ⟨x1, x2, rfl⟩
    refine hN _ _ ?_
    walk_at "D"
    exact fg_ret (K _)
end U
end
section
set_option Elab.async false
set_option linter.all false
set_option maxRecDepth 100000
set_option maxHeartbeats 4000000
namespace DL
open PySem L2 PyProof.Rows
end DL
end
section
set_option Elab.async false
set_option linter.all false
set_option maxRecDepth 100000
set_option maxHeartbeats 4000000
namespace DL
open PySem PySem.Spec L2 PyProof.Rows
end DL
end
section
set_option Elab.async false
set_option linter.all false
set_option maxRecDepth 100000
set_option maxHeartbeats 4000000
namespace DL
open PySem PySem.Spec L2 PyProof.Rows
end DL
namespace DL
open PySem PySem.Spec L2 PyProof.Rows
end DL
end
section
set_option Elab.async false
set_option linter.all false
set_option maxRecDepth 100000
set_option maxHeartbeats 2000000
namespace L2
open PySem PySem.Spec PyProof.Rows
section
variable {P : Program} {w : World} {K : PySem.W.Frag} {mg mb : Str → Option Value} {k : Nat} {fa a : Addr} {tb : List (Addr × Addr)} {fd : FuncData} {x : Str} {sp : Sp} {z : Shared} {vs : List Value} {ns : List Int}
/-- the tables' addresses -/
abbrev tabA (tb : List (Addr × Addr)) : List Addr := tb.map Prod.snd
/-- what is tracked as the law begins: its list, unless the written part has it, and the tables -/
def first (K : PySem.W.Frag) (a : Addr) (vs : List Value) (ns : List Int) (tb : List (Addr × Addr)) : Hp := fun b =>
  if b ∈ tabA tb then some (.tbl #[]) else if b = a ∧ K.lookup a = none then some (.frz { cls := .type "list", data := .seq vs.toArray } (.lst (ns.map V.int))) else none
theorem law_callTG
    (inK : K.In z.heap) (nsM : z.heap.Ns mainGlobals mg) (nsB : z.heap.Ns builtinsNs mb) (boot : ∀ x : Str, x ≠ "__name__" → mb x = bootBuiltins x) (noL : z.heap.NoLimit) (gens : z.gens = #[])
    (tabs : ∀ p ∈ tb, z.heap.get? p.2 = some { cls := .none, data := .fields #[] }) (tabK : ∀ p ∈ tb, K.lookup p.2 = none) (heads : ∀ p ∈ tb, PySem.W.CodeHd z.heap p.1 p.2)
    (bmod : ∃ (bm : Addr) (ob : Obj), mg "__builtins__" = some (.ref bm) ∧ bm ≠ builtinsNs ∧ z.heap.get? bm = some ob ∧ ob.cls = .type "module" ∧ ob.dict = some builtinsNs ∧ ob.data = .plain)
    (at_a : z.heap.get? a = some { cls := .type "list", data := .seq vs.toArray }) (hin : IntsAre vs ns) (few : ns.length ≤ sizeLine) (room : Room k callerA)
    (F : ∀ bs : Heap, K.In bs → bs.Ns mainGlobals mg → (∀ p ∈ tb, LamX.TabB bs mg p.1 p.2) → FnG P w K mg bs k fa fd [x] sp) (bind : ∀ (s : Shared) (u : Value), BindsTo s fd ⟨[u], []⟩ [(x, u)])
    (want : ∀ H : Hp, (∀ p ∈ tb, H p.2 = some (.tbl #[])) → SqL K H a (ns.map V.int) → sp [.ref a] H (fun v _ => v = .bl true) fun _ _ _ => False) :
    codeAny (model P w) callerA (.call (.ref fa) ⟨[.ref a], []⟩) (fun r s' => r = .ok (.ret (.bool true)) ∧ OldK z.heap s'.heap ∧ s'.os = z.os ∧ AllBare s'.gens) z := by
  have rel := vals_ints hin
  have lenI := hin.length
  have tabT : ∀ b ∈ tabA tb, z.heap.get? b = some { cls := .none, data := .fields #[] } := fun b hb => by
    obtain ⟨p, hp, rfl⟩ := List.mem_map.mp hb
    exact tabs p hp
  have tabN : ∀ b ∈ tabA tb, K.lookup b = none := fun b hb => by
    obtain ⟨p, hp, rfl⟩ := List.mem_map.mp hb
    exact tabK p hp
  have inT : ∀ p ∈ tb, p.2 ∈ tabA tb := fun p hp => List.mem_map.mpr ⟨p, hp, rfl⟩
  let H := first K a vs ns tb
  have aNo : a ∉ tabA tb := fun h => by
    have e := (tabT a h).symm.trans at_a
    have e2 := congrArg (fun o : Option Obj => o.map Obj.cls) e
    simp at e2
  have H1 : ∀ b, b ∈ tabA tb → H b = some (.tbl #[]) := fun b h => if_pos h
  have H2 : K.lookup a = none → H a = some (.frz { cls := .type "list", data := .seq vs.toArray } (.lst (ns.map V.int))) := fun h => by
    show (if a ∈ tabA tb then _ else _) = _
    rw [if_neg aNo, if_pos ⟨rfl, h⟩]
  have H3 : ∀ b, b ∉ tabA tb → (b = a → K.lookup a ≠ none) → H b = none := fun b h h2 => by
    show (if b ∈ tabA tb then _ else _) = _
    rw [if_neg h, if_neg fun q => h2 q.1 q.2]
  have H4 : ∀ b u, H b = some u → (b ∈ tabA tb ∧ u = .tbl #[]) ∨ (b = a ∧ K.lookup a = none ∧ u = .frz { cls := .type "list", data := .seq vs.toArray } (.lst (ns.map V.int))) := fun b u e => by
    have e' : (if b ∈ tabA tb then some (HO.tbl #[]) else if b = a ∧ K.lookup a = none then _ else none) = some u := e
    split at e'
    · rename_i h; cases e'; exact .inl ⟨h, rfl⟩
    · split at e'
      · rename_i h; cases e'; exact .inr ⟨h.1, h.2, rfl⟩
      · cases e'
  -- an object that is neither a list nor an empty row of fields is not tracked
  have free : ∀ {b : Addr} {o : Obj}, z.heap.get? b = some o → (∀ vs n, o.data ≠ .seq vs n) → o.data ≠ .fields #[] → H b = none := fun {b o} e d1 d2 => by
    refine H3 b (fun h => ?_) fun h _ => ?_
    · rw [tabT b h] at e; cases e; exact d2 rfl
    · rw [h, at_a] at e; cases e; exact d1 _ _ rfl
  have stays : ∀ {b : Addr} {o : Obj}, z.heap.get? b = some o → (∀ vs n, o.data ≠ .seq vs n) → o.data ≠ .fields #[] → (hidT z.heap H).get? b = some o := fun e d1 d2 => hidT_get e (free e d1 d2)
  have nsOf : ∀ {b : Addr} {m : Str → Option Value}, z.heap.Ns b m → (hidT z.heap H).Ns b m := fun ⟨o, es, ep, e, d, r⟩ => ⟨o, es, ep, stays e (fun _ _ q => by rw [d] at q; cases q) (fun q => by rw [d] at q; cases q), d, r⟩
  have inKb : K.In (hidT z.heap H) := fun b o e => hidT_get (inK b o e) (H3 b (fun h => by rw [tabN b h] at e; cases e) fun h h2 => by rw [h, h2] at e; cases e)
  have modl : Mod K mg (hidT z.heap H) := ⟨inKb, nsOf nsM, ⟨mb, nsOf nsB, boot⟩, let ⟨mc, h1, h2⟩ := noL; ⟨mc, nsOf h1, h2⟩⟩
  have hok : HOk P w H z.heap := fun b u e => by
    rcases H4 b u e with ⟨h, rfl⟩ | ⟨rfl, _, rfl⟩
    · exact tabT b h
    · exact ⟨at_a, by rw [List.length_map]; exact few, vs, _, rel, at_a⟩
  have sq : SqL K H a (ns.map V.int) := by
    cases hk : K.lookup a with
    | none => exact .inl (.inr ⟨_, H2 hk⟩)
    | some o =>
      have e := (inK a o hk).symm.trans at_a
      cases e
      exact .inr ⟨_, vs.toArray, _, hk, rfl, rfl, rfl, by rw [List.size_toArray, lenI]; exact few, by simpa using rel⟩
  have tabB : ∀ p ∈ tb, LamX.TabB (hidT z.heap H) mg p.1 p.2 := fun p hp => by
    refine ⟨?_, ?_, fun q => ?_⟩
    · obtain ⟨o, us, fl, tf, fg, tg, iF, tx, tt, e1, q1, q2, q3, rest⟩ := heads p hp
      exact ⟨o, us, fl, tf, fg, tg, iF, tx, tt, stays e1 (fun _ _ q => by rw [q2] at q; cases q) (fun q => by rw [q2] at q; cases q; simp at q3), q1, q2, q3, rest⟩
    · obtain ⟨bm, ob, b1, b2, b3, b4, b5, b6⟩ := bmod
      refine ⟨bm, ob, b1, b2, fun q => ?_, fun q => ?_, stays b3 (fun _ _ q => by rw [b6] at q; cases q) (fun q => by rw [b6] at q; cases q), b4, b5, b6⟩
      · obtain ⟨o, es, ep, e, d, _⟩ := nsM
        rw [q, e] at b3; cases b3; rw [d] at b6; cases b6
      · rw [q, tabs p hp] at b3; cases b3; cases b6
    · obtain ⟨o, es, ep, e, d, _⟩ := nsM
      rw [q, tabs p hp] at e; cases e; cases d
  have en : Env0 P w K mg (hidT z.heap H) callerA [] z H := ⟨rfl, modl, fun b o e => of_hidT e, Nat.le_of_eq (hidT_size _ _), trivial, (fun b hb => absurd (show b ∈ ([] : List Addr) from hb) (by simp)), hok, .of_eq gens⟩
  refine codeAny_mono ((F _ inKb (nsOf nsM) tabB).runG callerA [] z H ⟨[.ref a], []⟩ [.ref a] [.ref a] _ _ rfl room en (bind z (.ref a)) (.cons rfl .nil) (want H (fun p hp => H1 _ (inT p hp)) sq)) fun r s' q => ?_
  match r, q with
  | .error e, q => exact q.elim
  | .ok .next, q => exact q.elim
  | .ok .brk, q => exact q.elim
  | .ok .cont, q => exact q.elim
  | .ok (.ret u), ⟨v, H', os, bare, un, hok', r', ev⟩ =>
    have ev' : v = .bl true := ev
    subst ev'
    obtain rfl : u = Value.bool true := r'
    have same : ∀ b o, b ∉ tabA tb → z.heap.get? b = some o → s'.heap.get? b = some o := fun b o nb e => by
      cases hb : H b with
      | none => exact un.keep b o e hb (fun y => absurd (show b ∈ ([] : List Addr) from y) (by simp)) (by simp)
      | some u =>
        rcases H4 b u hb with ⟨h, _⟩ | ⟨_, _, rfl⟩
        · exact absurd h nb
        · have e1 := (hok b _ hb).1
          have e2 := (hok' b _ (un.frzs b _ _ hb)).1
          rw [e] at e1
          cases e1
          exact e2
    have rows : ∀ b ∈ tabA tb, ∃ more : Array Value, s'.heap.get? b = some { cls := .none, data := .fields more } := fun b hb => by
      obtain ⟨more, y⟩ := un.tbls b #[] (H1 b hb)
      exact ⟨_, hok' b _ y⟩
    refine ⟨rfl, ⟨fun b o e => ?_, fun b o e => ?_⟩, os, bare⟩
    · by_cases hb : b ∈ tabA tb
      · obtain ⟨p, hp, rfl⟩ := List.mem_map.mp hb
        obtain ⟨more, hm⟩ := rows _ hb
        rw [tabs p hp] at e
        cases e
        exact .inr (.inl ⟨((heads p hp).tab (tabs p hp)).isCodeTable, rfl, #[], more, rfl, by rw [Array.empty_append]; exact hm⟩)
      · exact .inl (same b o hb e)
    · by_cases hb : b ∈ tabA tb
      · obtain ⟨more, hm⟩ := rows b hb
        exact ⟨_, hm⟩
      · exact ⟨o, same b o hb e⟩
end
/-- what is known of such a law's promise at the head's heap -/
def LawAtG (l : PySem.W.OpenLaw) (w : World) (K : PySem.W.Frag) (k n : Nat) (x : Str) (mg : Str → Option Value) (fa : Addr) (h : Heap) : Prop :=
  ∃ (fd : FuncData) (tb : List (Addr × Addr)) (sp : Sp), (∀ p ∈ tb, h.get? p.2 = some { cls := .none, data := .fields #[] }) ∧ (∀ p ∈ tb, K.lookup p.2 = none) ∧ (∀ p ∈ tb, PySem.W.CodeHd h p.1 p.2) ∧ (∀ (s : Shared) (u : Value), BindsTo s fd ⟨[u], []⟩ [(x, u)]) ∧
    (∀ (H : Hp) (a : Addr) (ns : List Int), ns.length ≤ n → (∀ p ∈ tb, H p.2 = some (.tbl #[])) → SqL K H a (ns.map V.int) → sp [.ref a] H (fun v _ => v = .bl true) fun _ _ _ => False) ∧
    ∀ bs : Heap, K.In bs → bs.Ns mainGlobals mg → (∀ p ∈ tb, LamX.TabB bs mg p.1 p.2) → FnG l.prog w K mg bs k fa fd [x] sp
theorem walk_ofTG {l : PySem.W.OpenLaw} {n k : Nat} {q : Program} {loose : List Str} {XP : (Str → Option Value) → Heap → Prop} {YP : World → Heap → Prop} {d : DefRec} {K : Params → PySem.W.Frag} {x : Str}
    (hn : l.most = some n) (few : n ≤ sizeLine) (hdf : d.params.defaults = []) (room : Room k callerA) (hY : ∀ (w : World) (h : Heap), YP w h → (K w.params).In h)
    (F : ∀ (w : World) (mg : Str → Option Value) (fa : Addr) (h : Heap), YP w h → (K w.params).In h → h.Ns mainGlobals mg → mg d.name = some (.ref fa) → LawAtG l w (K w.params) k n x mg fa h) :
    PySem.W.WalkO q loose XP YP l.row.toRowW d [] (fun f vs => PySem.call f vs) := by
  refine Att.attach_callB hn hdf fun w s₀ z mg mb fa o pm cd doc a vs ns G Y ho hd hcd hmg hobj hints hlen _ gens => ?_
  have inK := hY w _ Y
  obtain ⟨fd, tb, sp, h1, h2, h3, hb, want, hF⟩ := F w mg fa _ Y inK G.T.g hmg
  exact law_callTG inK G.T.g G.T.b G.T.builtins G.T.nolimit gens h1 h2 h3 G.T.bmain hobj hints (Nat.le_trans hlen few) room hF hb fun H => want H a ns hlen
end L2
namespace DL
open PySem PySem.Spec PySem.W L2 PyProof.Rows EX
section
variable [tB : Tb] {P : Program} {w : World} {K : PySem.W.Frag} {mg : Str → Option Value} {base : Heap}
theorem fnG_okM {N : List Str} {k : Nat} {x qual : Str} {s : Stmt} {f cc Pt : Addr} {fd : FuncData} {ps : List Str} {sp : SpD} {t : TDs} (Fu : FunM K x qual s f cc fd) (S : FnScope N ps (defScope s)) (B : LamX.TabB base mg cc Pt) (hT : tB.T = [(Pt, Lm (qual ++ ".<locals>."))]) (len : ∀ xs st Q, sp xs st Q → xs.length = ps.length)
    (hq : ∀ g cd : Value, ∀ (z : Addr) (f : Addr), Lm (envOfC qual (defScope s) z f cd).qual = Lm (qual ++ ".<locals>."))
    (hbody : ∀ [Gr] X, Cok P w K mg base X N (defScope s) (defScope s) k → X.A.guards = some [] → Mk mg base X cc Pt (Lm (qual ++ ".<locals>.")) → DSs X (defBody s) t)
    (hsem : ∀ xs st Q, sp xs st Q → t { nx := fun _ st' => Fg Q (.d .none) st', rt := Fg Q } (startD N.length xs) st) : FnG P w K mg base (k + 1) f fd ps (hsp K sp) := by
  obtain ⟨oc, od, kV, doc, pm, an, ct, osl, rfl, lk, hcd⟩ := Fu.ex
  refine fnG_of lk hcd S (fun vs H Q E ⟨F, st, xs, Qd, R, r, h, kk⟩ => r.length.trans (len xs st Qd h)) fun A outer s' H vs Q E hg hr ⟨F, st, xs, Qd, R, r, h, kk⟩ => ?_
  have c : Cok P w K mg base (cxOf CX0 P w K mg base N qual (defScope s) f (.ref cc) A outer s' H E).nox N (defScope s) (defScope s) k :=
    ⟨rfl, rfl, rfl, rfl, rfl, rfl, S.nd, S.kind, rfl, rfl, fun _ _ => rfl, hr, fun _ _ h => h.elim⟩
  obtain ⟨ts, p, a⟩ := hbody _ c hg ⟨rfl, hq .none _ _ _, B, by rw [hT]; exact List.mem_singleton_self _, fun p hp _ => by rw [hT] at hp; rw [List.mem_singleton.mp hp]⟩
  have fin : ∀ F' v H' x' st', Step F H st F' H' st' → Rs K F' H' st' → RV K F' v x' → Fg Qd x' st' → Q v H' := fun F' v H' x' st' t R' r' ⟨st2, le, q⟩ =>
    kk F' v H' x' st2 (t.less le) (R'.toRs0.le le).tr r' q
  exact ⟨ts, p.nox, a F _ H (startD N.length xs) st _ _ R.tr (start_re r N) (hsem xs st Qd h) ⟨fun F' σ' H' ε' st' t R' E' q => fin F' .non H' (.d .none) st' t R' (.d .non) q, fin, fun _ _ _ _ _ _ _ _ z => z.elim, fun _ _ _ _ _ _ _ _ z => z.elim⟩⟩
end
end DL
end
section
set_option Elab.async false
set_option linter.all false
set_option pp.maxSteps 200
set_option maxRecDepth 100000
namespace GD
open PySem L2 DL RD
section
variable {P : Program} {w : World} {K : PySem.W.Frag} {mg : Str → Option Value} {base : Heap}
variable [tB : Tb] [gR : Gr]
def top (i : Nat) : Stmt := PySem.Challenge.pw_jointneeds_k31_ideals_and_complexes.main.body.getD i (.Pass ⟨0, 0, 0, 0⟩)
structure Tx (mg : Str → Option Value) : Prop where
  b_all : mg "all" = none
  b_any : mg "any" = none
  b_bool : mg "bool" = none
  b_enumerate : mg "enumerate" = none
  b_int : mg "int" = none
  b_isinstance : mg "isinstance" = none
  b_len : mg "len" = none
  b_list : mg "list" = none
  b_max : mg "max" = none
  b_min : mg "min" = none
  b_range : mg "range" = none
  b_repr : mg "repr" = none
  b_set : mg "set" = none
  b_sorted : mg "sorted" = none
  b_sum : mg "sum" = none
  b_tuple : mg "tuple" = none
  b_zip : mg "zip" = none
  c_MOST_EXPONENT : ∃ t, mg "MOST_EXPONENT" = some (.int 60 t)
  c_MOST_GENERATORS : ∃ t, mg "MOST_GENERATORS" = some (.int 60 t)
  c_MOST_VARIABLES : ∃ t, mg "MOST_VARIABLES" = some (.int 12 t)
  m_combinations : mg "combinations" = some (.type "itertools.combinations")
abbrev s_divides : Stmt := top 9
abbrev N_divides : List Str := ["a", "b", "one", "other"]
theorem S_divides : FnScope N_divides ["a", "b"] (defScope s_divides) := ⟨rfl, rfl, rfl, by decide +kernel, rfl, by decide +kernel, by decide +kernel⟩
theorem v_divides_0 : visB N_divides (defScope s_divides) 0 "a" = true := by decide +kernel
theorem v_divides_1 : visB N_divides (defScope s_divides) 1 "b" = true := by decide +kernel
theorem v_divides_2 : visB N_divides (defScope s_divides) 2 "one" = true := by decide +kernel
theorem l_divides_2 : locB N_divides (defScope s_divides) (defScope s_divides) 2 "one" = true := by decide +kernel
theorem v_divides_3 : visB N_divides (defScope s_divides) 3 "other" = true := by decide +kernel
theorem l_divides_3 : locB N_divides (defScope s_divides) (defScope s_divides) 3 "other" = true := by decide +kernel
theorem g_divides_zip : glB (defScope s_divides) "zip" = true := by decide +kernel
set_option maxHeartbeats 4000000 in
theorem d_divides  (T : Tx mg)  : ∀ X, Cok P w K mg base X N_divides (defScope s_divides) (defScope s_divides) 0 → DSs X (defBody s_divides) (rd_divides) := fun X c =>
  (ds_cons (ds_for c (di_zip c g_divides_zip T.b_zip (da_cons (de_var c v_divides_0) (da_cons (de_var c v_divides_1) da_nil))) (dg_tup c (dgs_cons (dg_name c l_divides_2) (dgs_cons (dg_name c l_divides_3) dgs_nil))) (ds_one (ds_if (dt_cp op_qGt rfl (de_var c v_divides_2) (de_var c v_divides_3)) (ds_one (ds_ret de_bl)) ds_nil)))
  (ds_one (ds_ret de_bl)))
theorem o_divides  (T : Tx mg)  {f : Addr} {fd : FuncData} {sp : SpD} (Fu : Fun K "divides" "divides" s_divides f fd) (hm : mg "divides" = some (.ref f)) (len : ∀ xs st Q, sp xs st Q → xs.length = 2) (sem : ∀ xs st Q, sp xs st Q → rd_divides { nx := fun _ st' => Fg Q (.d .none) st', rt := Fg Q } (startD 4 xs) st) : Cl P w K mg base "divides" 1 sp :=
  ⟨f, fd, ["a", "b"], hm, Fu.kp, fn_ok Fu S_divides len (d_divides T ) sem, Fu.binds fun _ _ _ _ _ _ us hl => match us, hl with | [_, _], _ => rfl⟩
abbrev s_least_ones : Stmt := top 19
abbrev N_least_ones : List Str := ["monomials", "found", "monomial", "other"]
theorem S_least_ones : FnScope N_least_ones ["monomials"] (defScope s_least_ones) := ⟨rfl, rfl, rfl, by decide +kernel, rfl, by decide +kernel, by decide +kernel⟩
theorem v_least_ones_0 : visB N_least_ones (defScope s_least_ones) 0 "monomials" = true := by decide +kernel
theorem v_least_ones_1 : visB N_least_ones (defScope s_least_ones) 1 "found" = true := by decide +kernel
theorem l_least_ones_1 : locB N_least_ones (defScope s_least_ones) (defScope s_least_ones) 1 "found" = true := by decide +kernel
theorem v_least_ones_2 : visB N_least_ones (defScope s_least_ones) 2 "monomial" = true := by decide +kernel
theorem l_least_ones_2 : locB N_least_ones (defScope s_least_ones) (defScope s_least_ones) 2 "monomial" = true := by decide +kernel
theorem g_least_ones_sorted : glB (defScope s_least_ones) "sorted" = true := by decide +kernel
theorem g_least_ones_set : glB (defScope s_least_ones) "set" = true := by decide +kernel
theorem g_least_ones_any : glB (defScope s_least_ones) "any" = true := by decide +kernel
set_option maxHeartbeats 4000000 in
theorem d_least_ones {sp_divides : SpD} (T : Tx mg) (C_divides : Cl P w K mg base "divides" 1 sp_divides) : ∀ X, Cok P w K mg base X N_least_ones (defScope s_least_ones) (defScope s_least_ones) 1 → DSs X (defBody s_least_ones) (rd_least_ones sp_divides) := fun X c =>
  (ds_cons (ds_asg c (de_lst true da_nil) (dg_name c l_least_ones_1) rfl rfl)
  (ds_cons (ds_for c (di_seq (BS.de_sortB false c g_least_ones_sorted T.b_sorted g_least_ones_set T.b_set (de_var c v_least_ones_0))) (dg_name c l_least_ones_2) (ds_one (ds_if (dt_not (dt_val (de_cb c g_least_ones_any T.b_any bb_any (c_any c.calm) (da_cons (de_lc false [("other", 3)] c (by decide +kernel) (by decide) (di_seq (de_var c v_least_ones_1)) (fun _ c1 => (dg_name c1 (by decide +kernel))) (fun _ c1 => dts_nil) (fun _ c1 => (de_callC c1 (by decide +kernel) C_divides (by decide) (da_cons (de_var c1 (by decide +kernel)) (da_cons (de_var c1 (by decide +kernel)) da_nil))))) da_nil)))) (ds_one (ds_expr (de_append (de_var c v_least_ones_1) (de_var c v_least_ones_2)))) ds_nil)))
  (ds_one (ds_ret (de_var c v_least_ones_1)))))
theorem o_least_ones {sp_divides : SpD} (T : Tx mg) (C_divides : Cl P w K mg base "divides" 1 sp_divides) {f : Addr} {fd : FuncData} {sp : SpD} (Fu : Fun K "least_ones" "least_ones" s_least_ones f fd) (hm : mg "least_ones" = some (.ref f)) (len : ∀ xs st Q, sp xs st Q → xs.length = 1) (sem : ∀ xs st Q, sp xs st Q → rd_least_ones sp_divides { nx := fun _ st' => Fg Q (.d .none) st', rt := Fg Q } (startD 4 xs) st) : Cl P w K mg base "least_ones" 2 sp :=
  ⟨f, fd, ["monomials"], hm, Fu.kp, fn_ok Fu S_least_ones len (d_least_ones T C_divides) sem, Fu.binds fun _ _ _ _ _ _ us hl => match us, hl with | [_], _ => rfl⟩
abbrev s_made_x : Stmt := top 20
abbrev N_made_x : List Str := ["n", "monomials", "found", "monomial"]
theorem S_made_x : FnScope N_made_x ["n", "monomials"] (defScope s_made_x) := ⟨rfl, rfl, rfl, by decide +kernel, rfl, by decide +kernel, by decide +kernel⟩
theorem v_made_x_0 : visB N_made_x (defScope s_made_x) 0 "n" = true := by decide +kernel
theorem v_made_x_1 : visB N_made_x (defScope s_made_x) 1 "monomials" = true := by decide +kernel
theorem v_made_x_2 : visB N_made_x (defScope s_made_x) 2 "found" = true := by decide +kernel
theorem l_made_x_2 : locB N_made_x (defScope s_made_x) (defScope s_made_x) 2 "found" = true := by decide +kernel
theorem v_made_x_3 : visB N_made_x (defScope s_made_x) 3 "monomial" = true := by decide +kernel
theorem l_made_x_3 : locB N_made_x (defScope s_made_x) (defScope s_made_x) 3 "monomial" = true := by decide +kernel
theorem g_made_x_least_ones : glB (defScope s_made_x) "least_ones" = true := by decide +kernel
theorem g_made_x_len : glB (defScope s_made_x) "len" = true := by decide +kernel
theorem g_made_x_MOST_GENERATORS : glB (defScope s_made_x) "MOST_GENERATORS" = true := by decide +kernel
theorem g_made_x_TooMany : glB (defScope s_made_x) "TooMany" = true := by decide +kernel
theorem g_made_x_max : glB (defScope s_made_x) "max" = true := by decide +kernel
theorem g_made_x_MOST_EXPONENT : glB (defScope s_made_x) "MOST_EXPONENT" = true := by decide +kernel
theorem g_made_x_TooGreat : glB (defScope s_made_x) "TooGreat" = true := by decide +kernel
theorem g_made_x_tuple : glB (defScope s_made_x) "tuple" = true := by decide +kernel
set_option maxHeartbeats 4000000 in
theorem d_made_x {sp_least_ones : SpD} (T : Tx mg) (C_least_ones : Cl P w K mg base "least_ones" 2 sp_least_ones) (X_TooMany : XCl P w K mg base "TooMany" ["limit"]) (X_TooGreat : XCl P w K mg base "TooGreat" ["limit"]) (W : XWe) : ∀ X, Cok P w K mg base X N_made_x (defScope s_made_x) (defScope s_made_x) 2 → Lx K mg W X → DSs X (defBody s_made_x) (rd_made_x W sp_least_ones) := fun X c L =>
  (ds_cons (ds_asg c (de_callC c g_made_x_least_ones C_least_ones (by decide) (da_cons (de_var c v_made_x_1) da_nil)) (dg_name c l_made_x_2) rfl rfl)
  (ds_cons (ds_if (dt_cp op_qGt rfl (de_cb c g_made_x_len T.b_len bb_len c_len (da_cons (de_var c v_made_x_2) da_nil)) (de_gint c g_made_x_MOST_GENERATORS T.c_MOST_GENERATORS)) (ds_one (ds_raise c L X_TooMany (by decide) g_made_x_TooMany (da_cons (de_gint c g_made_x_MOST_GENERATORS T.c_MOST_GENERATORS) da_nil))) ds_nil)
  (ds_cons (ds_for c (di_seq (de_var c v_made_x_2)) (dg_name c l_made_x_3) (ds_one (ds_if (dt_cp op_qGt rfl (de_cb c g_made_x_max T.b_max bb_max (c_max1 c.calm c.hu65) (da_cons (de_var c v_made_x_3) da_nil)) (de_gint c g_made_x_MOST_EXPONENT T.c_MOST_EXPONENT)) (ds_one (ds_raise c L X_TooGreat (by decide) g_made_x_TooGreat (da_cons (de_gint c g_made_x_MOST_EXPONENT T.c_MOST_EXPONENT) da_nil))) ds_nil)))
  (ds_one (ds_ret (de_tup (da_cons (de_var c v_made_x_0) (da_cons (de_ct c g_made_x_tuple T.b_tuple bt_tuple c_tuple (da_cons (de_var c v_made_x_2) da_nil)) da_nil))))))))
theorem o_made_x {sp_least_ones : SpD} (T : Tx mg) (C_least_ones : Cl P w K mg base "least_ones" 2 sp_least_ones) (X_TooMany : XCl P w K mg base "TooMany" ["limit"]) (X_TooGreat : XCl P w K mg base "TooGreat" ["limit"]) {f : Addr} {fd : FuncData} {sp : XWc → SpD} (Fu : Fun K "made" "made" s_made_x f fd) (hm : mg "made" = some (.ref f)) (len : ∀ W xs st Q, sp W xs st Q → xs.length = 2) (sem : ∀ W xs st Q, sp W xs st Q → rd_made_x (fun x kvs _ st' => FgX W x kvs st') sp_least_ones { nx := fun _ st' => Fg Q (.d .none) st', rt := Fg Q } (startD 4 xs) st) : ClX P w K mg base "made" 3 sp :=
  ⟨f, fd, ["n", "monomials"], hm, Fu.kp, fn_okX (t := fun W => rd_made_x W sp_least_ones) Fu S_made_x len (fun W => d_made_x T C_least_ones X_TooMany X_TooGreat W) sem, Fu.binds fun _ _ _ _ _ _ us hl => match us, hl with | [_, _], _ => rfl⟩
abbrev s_product_of_vertices : Stmt := top 26
abbrev N_product_of_vertices : List Str := ["v", "face", "vertex"]
theorem S_product_of_vertices : FnScope N_product_of_vertices ["v", "face"] (defScope s_product_of_vertices) := ⟨rfl, rfl, rfl, by decide +kernel, rfl, by decide +kernel, by decide +kernel⟩
theorem v_product_of_vertices_0 : visB N_product_of_vertices (defScope s_product_of_vertices) 0 "v" = true := by decide +kernel
theorem g_product_of_vertices_range : glB (defScope s_product_of_vertices) "range" = true := by decide +kernel
theorem g_product_of_vertices_tuple : glB (defScope s_product_of_vertices) "tuple" = true := by decide +kernel
set_option maxHeartbeats 4000000 in
theorem d_product_of_vertices  (T : Tx mg)  : ∀ X, Cok P w K mg base X N_product_of_vertices (defScope s_product_of_vertices) (defScope s_product_of_vertices) 0 → DSs X (defBody s_product_of_vertices) (rd_product_of_vertices) := fun X c =>
  (ds_one (ds_ret (de_ct c g_product_of_vertices_tuple T.b_tuple bt_tuple c_tuple (da_cons (de_lc false [("vertex", 2)] c (by decide +kernel) (by decide) (di_rng1 c g_product_of_vertices_range T.b_range (da_cons (de_var c v_product_of_vertices_0) da_nil)) (fun _ c1 => (dg_name c1 (by decide +kernel))) (fun _ c1 => dts_nil) (fun _ c1 => (de_if (dt_cp (op_qIn c1.hu65) rfl (de_var c1 (by decide +kernel)) (de_var c1 (by decide +kernel))) de_int de_int))) da_nil))))
theorem o_product_of_vertices  (T : Tx mg)  {f : Addr} {fd : FuncData} {sp : SpD} (Fu : Fun K "product_of_vertices" "product_of_vertices" s_product_of_vertices f fd) (hm : mg "product_of_vertices" = some (.ref f)) (len : ∀ xs st Q, sp xs st Q → xs.length = 2) (sem : ∀ xs st Q, sp xs st Q → rd_product_of_vertices { nx := fun _ st' => Fg Q (.d .none) st', rt := Fg Q } (startD 3 xs) st) : Cl P w K mg base "product_of_vertices" 1 sp :=
  ⟨f, fd, ["v", "face"], hm, Fu.kp, fn_ok Fu S_product_of_vertices len (d_product_of_vertices T ) sem, Fu.binds fun _ _ _ _ _ _ us hl => match us, hl with | [_, _], _ => rfl⟩
abbrev s_all_faces : Stmt := top 23
abbrev N_all_faces : List Str := ["facets", "found", "facet", "size", "face"]
theorem S_all_faces : FnScope N_all_faces ["facets"] (defScope s_all_faces) := ⟨rfl, rfl, rfl, by decide +kernel, rfl, by decide +kernel, by decide +kernel⟩
theorem v_all_faces_0 : visB N_all_faces (defScope s_all_faces) 0 "facets" = true := by decide +kernel
theorem v_all_faces_1 : visB N_all_faces (defScope s_all_faces) 1 "found" = true := by decide +kernel
theorem l_all_faces_1 : locB N_all_faces (defScope s_all_faces) (defScope s_all_faces) 1 "found" = true := by decide +kernel
theorem v_all_faces_2 : visB N_all_faces (defScope s_all_faces) 2 "facet" = true := by decide +kernel
theorem l_all_faces_2 : locB N_all_faces (defScope s_all_faces) (defScope s_all_faces) 2 "facet" = true := by decide +kernel
theorem v_all_faces_3 : visB N_all_faces (defScope s_all_faces) 3 "size" = true := by decide +kernel
theorem l_all_faces_3 : locB N_all_faces (defScope s_all_faces) (defScope s_all_faces) 3 "size" = true := by decide +kernel
theorem v_all_faces_4 : visB N_all_faces (defScope s_all_faces) 4 "face" = true := by decide +kernel
theorem l_all_faces_4 : locB N_all_faces (defScope s_all_faces) (defScope s_all_faces) 4 "face" = true := by decide +kernel
theorem g_all_faces_len : glB (defScope s_all_faces) "len" = true := by decide +kernel
theorem g_all_faces_range : glB (defScope s_all_faces) "range" = true := by decide +kernel
theorem g_all_faces_combinations : glB (defScope s_all_faces) "combinations" = true := by decide +kernel
set_option maxHeartbeats 4000000 in
theorem d_all_faces  (T : Tx mg)  : ∀ X, Cok P w K mg base X N_all_faces (defScope s_all_faces) (defScope s_all_faces) 0 → DSs X (defBody s_all_faces) (rd_all_faces) := fun X c =>
  (ds_cons (ds_asg c (de_dnew true) (dg_name c l_all_faces_1) rfl rfl)
  (ds_cons (ds_for c (di_seq (de_var c v_all_faces_0)) (dg_name c l_all_faces_2) (ds_one (ds_for c (di_rng1 c g_all_faces_range T.b_range (da_cons (de_bin (op_qAdd false) (de_cb c g_all_faces_len T.b_len bb_len c_len (da_cons (de_var c v_all_faces_2) da_nil)) de_int) da_nil)) (dg_name c l_all_faces_3) (ds_one (ds_for c (di_comb c g_all_faces_combinations T.m_combinations (da_cons (de_var c v_all_faces_2) (da_cons (de_var c v_all_faces_3) da_nil))) (dg_name c l_all_faces_4) (ds_one (ds_dput c (de_var c v_all_faces_1) (de_var c v_all_faces_4) de_bl rfl)))))))
  (ds_one (ds_ret (de_var c v_all_faces_1)))))
theorem o_all_faces  (T : Tx mg)  {f : Addr} {fd : FuncData} {sp : SpD} (Fu : Fun K "all_faces" "all_faces" s_all_faces f fd) (hm : mg "all_faces" = some (.ref f)) (len : ∀ xs st Q, sp xs st Q → xs.length = 1) (sem : ∀ xs st Q, sp xs st Q → rd_all_faces { nx := fun _ st' => Fg Q (.d .none) st', rt := Fg Q } (startD 5 xs) st) : Cl P w K mg base "all_faces" 1 sp :=
  ⟨f, fd, ["facets"], hm, Fu.kp, fn_ok Fu S_all_faces len (d_all_faces T ) sem, Fu.binds fun _ _ _ _ _ _ us hl => match us, hl with | [_], _ => rfl⟩
abbrev s_borders : Stmt := top 24
abbrev N_borders : List Str := ["face", "place"]
theorem S_borders : FnScope N_borders ["face"] (defScope s_borders) := ⟨rfl, rfl, rfl, by decide +kernel, rfl, by decide +kernel, by decide +kernel⟩
theorem v_borders_0 : visB N_borders (defScope s_borders) 0 "face" = true := by decide +kernel
theorem g_borders_len : glB (defScope s_borders) "len" = true := by decide +kernel
theorem g_borders_range : glB (defScope s_borders) "range" = true := by decide +kernel
set_option maxHeartbeats 4000000 in
theorem d_borders  (T : Tx mg)  : ∀ X, Cok P w K mg base X N_borders (defScope s_borders) (defScope s_borders) 0 → DSs X (defBody s_borders) (rd_borders) := fun X c =>
  (ds_one (ds_ret (de_lc false [("place", 1)] c (by decide +kernel) (by decide) (di_rng1 c g_borders_range T.b_range (da_cons (de_cb c g_borders_len T.b_len bb_len c_len (da_cons (de_var c v_borders_0) da_nil)) da_nil)) (fun _ c1 => (dg_name c1 (by decide +kernel))) (fun _ c1 => dts_nil) (fun _ c1 => (de_bin (op_qAdd false) (de_sl false (de_var c1 (by decide +kernel)) do_none (do_some (de_var c1 (by decide +kernel)))) (de_sl false (de_var c1 (by decide +kernel)) (do_some (de_bin (op_qAdd false) (de_var c1 (by decide +kernel)) de_int)) do_none))))))
theorem o_borders  (T : Tx mg)  {f : Addr} {fd : FuncData} {sp : SpD} (Fu : Fun K "borders" "borders" s_borders f fd) (hm : mg "borders" = some (.ref f)) (len : ∀ xs st Q, sp xs st Q → xs.length = 1) (sem : ∀ xs st Q, sp xs st Q → rd_borders { nx := fun _ st' => Fg Q (.d .none) st', rt := Fg Q } (startD 2 xs) st) : Cl P w K mg base "borders" 1 sp :=
  ⟨f, fd, ["face"], hm, Fu.kp, fn_ok Fu S_borders len (d_borders T ) sem, Fu.binds fun _ _ _ _ _ _ us hl => match us, hl with | [_], _ => rfl⟩
abbrev s_least_lacking : Stmt := top 25
abbrev N_least_lacking : List Str := ["v", "facets", "faces", "found", "size", "face", "border"]
theorem S_least_lacking : FnScope N_least_lacking ["v", "facets"] (defScope s_least_lacking) := ⟨rfl, rfl, rfl, by decide +kernel, rfl, by decide +kernel, by decide +kernel⟩
theorem v_least_lacking_0 : visB N_least_lacking (defScope s_least_lacking) 0 "v" = true := by decide +kernel
theorem v_least_lacking_1 : visB N_least_lacking (defScope s_least_lacking) 1 "facets" = true := by decide +kernel
theorem v_least_lacking_2 : visB N_least_lacking (defScope s_least_lacking) 2 "faces" = true := by decide +kernel
theorem l_least_lacking_2 : locB N_least_lacking (defScope s_least_lacking) (defScope s_least_lacking) 2 "faces" = true := by decide +kernel
theorem v_least_lacking_3 : visB N_least_lacking (defScope s_least_lacking) 3 "found" = true := by decide +kernel
theorem l_least_lacking_3 : locB N_least_lacking (defScope s_least_lacking) (defScope s_least_lacking) 3 "found" = true := by decide +kernel
theorem v_least_lacking_4 : visB N_least_lacking (defScope s_least_lacking) 4 "size" = true := by decide +kernel
theorem l_least_lacking_4 : locB N_least_lacking (defScope s_least_lacking) (defScope s_least_lacking) 4 "size" = true := by decide +kernel
theorem v_least_lacking_5 : visB N_least_lacking (defScope s_least_lacking) 5 "face" = true := by decide +kernel
theorem l_least_lacking_5 : locB N_least_lacking (defScope s_least_lacking) (defScope s_least_lacking) 5 "face" = true := by decide +kernel
theorem g_least_lacking_all_faces : glB (defScope s_least_lacking) "all_faces" = true := by decide +kernel
theorem g_least_lacking_range : glB (defScope s_least_lacking) "range" = true := by decide +kernel
theorem g_least_lacking_combinations : glB (defScope s_least_lacking) "combinations" = true := by decide +kernel
theorem g_least_lacking_borders : glB (defScope s_least_lacking) "borders" = true := by decide +kernel
theorem g_least_lacking_all : glB (defScope s_least_lacking) "all" = true := by decide +kernel
set_option maxHeartbeats 4000000 in
theorem d_least_lacking {sp_all_faces : SpD} {sp_borders : SpD} (T : Tx mg) (C_all_faces : Cl P w K mg base "all_faces" 1 sp_all_faces) (C_borders : Cl P w K mg base "borders" 1 sp_borders) : ∀ X, Cok P w K mg base X N_least_lacking (defScope s_least_lacking) (defScope s_least_lacking) 1 → DSs X (defBody s_least_lacking) (rd_least_lacking sp_all_faces sp_borders) := fun X c =>
  (ds_cons (ds_asg c (de_tup (da_cons (de_callC c g_least_lacking_all_faces C_all_faces (by decide) (da_cons (de_var c v_least_lacking_1) da_nil)) (da_cons (de_lst true da_nil) da_nil))) (dg_tup c (dgs_cons (dg_name c l_least_lacking_2) (dgs_cons (dg_name c l_least_lacking_3) dgs_nil))) rfl (by kernel_rfl))
  (ds_cons (ds_for c (di_rng1 c g_least_lacking_range T.b_range (da_cons (de_bin (op_qAdd false) (de_var c v_least_lacking_0) de_int) da_nil)) (dg_name c l_least_lacking_4) (ds_one (ds_for c (di_combR c g_least_lacking_combinations T.m_combinations g_least_lacking_range T.b_range (de_var c v_least_lacking_0) (de_var c v_least_lacking_4)) (dg_name c l_least_lacking_5) (ds_one (ds_if (DW.pt (dw_and (dt_dnotin c (de_var c v_least_lacking_5) (de_var c v_least_lacking_2)) (dw_and1 (dt_val (de_cb c g_least_lacking_all T.b_all bb_all (c_all c.calm) (da_cons (de_lc false [("border", 6)] c (by decide +kernel) (by decide) (di_seq (de_callC c g_least_lacking_borders C_borders (by decide) (da_cons (de_var c v_least_lacking_5) da_nil))) (fun _ c1 => (dg_name c1 (by decide +kernel))) (fun _ c1 => dts_nil) (fun _ c1 => (de_din c1 (de_var c1 (by decide +kernel)) (de_var c1 (by decide +kernel))))) da_nil)))))) (ds_one (ds_expr (de_append (de_var c v_least_lacking_3) (de_var c v_least_lacking_5)))) ds_nil)))))
  (ds_one (ds_ret (de_var c v_least_lacking_3)))))
theorem o_least_lacking {sp_all_faces : SpD} {sp_borders : SpD} (T : Tx mg) (C_all_faces : Cl P w K mg base "all_faces" 1 sp_all_faces) (C_borders : Cl P w K mg base "borders" 1 sp_borders) {f : Addr} {fd : FuncData} {sp : SpD} (Fu : Fun K "least_lacking" "least_lacking" s_least_lacking f fd) (hm : mg "least_lacking" = some (.ref f)) (len : ∀ xs st Q, sp xs st Q → xs.length = 2) (sem : ∀ xs st Q, sp xs st Q → rd_least_lacking sp_all_faces sp_borders { nx := fun _ st' => Fg Q (.d .none) st', rt := Fg Q } (startD 7 xs) st) : Cl P w K mg base "least_lacking" 2 sp :=
  ⟨f, fd, ["v", "facets"], hm, Fu.kp, fn_ok Fu S_least_lacking len (d_least_lacking T C_all_faces C_borders) sem, Fu.binds fun _ _ _ _ _ _ us hl => match us, hl with | [_, _], _ => rfl⟩
abbrev s_ideal_of_complex_x : Stmt := top 27
abbrev N_ideal_of_complex_x : List Str := ["v", "facets", "face"]
theorem S_ideal_of_complex_x : FnScope N_ideal_of_complex_x ["v", "facets"] (defScope s_ideal_of_complex_x) := ⟨rfl, rfl, rfl, by decide +kernel, rfl, by decide +kernel, by decide +kernel⟩
theorem v_ideal_of_complex_x_0 : visB N_ideal_of_complex_x (defScope s_ideal_of_complex_x) 0 "v" = true := by decide +kernel
theorem v_ideal_of_complex_x_1 : visB N_ideal_of_complex_x (defScope s_ideal_of_complex_x) 1 "facets" = true := by decide +kernel
theorem g_ideal_of_complex_x_least_lacking : glB (defScope s_ideal_of_complex_x) "least_lacking" = true := by decide +kernel
theorem g_ideal_of_complex_x_made_x : glB (defScope s_ideal_of_complex_x) "made" = true := by decide +kernel
set_option maxHeartbeats 4000000 in
theorem d_ideal_of_complex_x {sp_least_lacking : SpD} {sp_product_of_vertices : SpD} {sp_made_x : XWc → SpD} (T : Tx mg) (C_least_lacking : Cl P w K mg base "least_lacking" 2 sp_least_lacking) (C_product_of_vertices : Cl P w K mg base "product_of_vertices" 1 sp_product_of_vertices) (C_made_x : ClX P w K mg base "made" 3 sp_made_x) (W : XWe) : ∀ X, Cok P w K mg base X N_ideal_of_complex_x (defScope s_ideal_of_complex_x) (defScope s_ideal_of_complex_x) 3 → Lx K mg W X → DSs X (defBody s_ideal_of_complex_x) (rd_ideal_of_complex_x W sp_least_lacking sp_product_of_vertices sp_made_x) := fun X c L =>
  (ds_one (ds_ret (de_callX c L g_ideal_of_complex_x_made_x C_made_x (by decide) (da_cons (de_var c v_ideal_of_complex_x_0) (da_cons (de_lc false [("face", 2)] c (by decide +kernel) (by decide) (di_seq (de_callC c g_ideal_of_complex_x_least_lacking C_least_lacking (by decide) (da_cons (de_var c v_ideal_of_complex_x_0) (da_cons (de_var c v_ideal_of_complex_x_1) da_nil)))) (fun _ c1 => (dg_name c1 (by decide +kernel))) (fun _ c1 => dts_nil) (fun _ c1 => (de_callC c1 (by decide +kernel) C_product_of_vertices (by decide) (da_cons (de_var c1 (by decide +kernel)) (da_cons (de_var c1 (by decide +kernel)) da_nil))))) da_nil)))))
theorem o_ideal_of_complex_x {sp_least_lacking : SpD} {sp_product_of_vertices : SpD} {sp_made_x : XWc → SpD} (T : Tx mg) (C_least_lacking : Cl P w K mg base "least_lacking" 2 sp_least_lacking) (C_product_of_vertices : Cl P w K mg base "product_of_vertices" 1 sp_product_of_vertices) (C_made_x : ClX P w K mg base "made" 3 sp_made_x) {f : Addr} {fd : FuncData} {sp : XWc → SpD} (Fu : Fun K "ideal_of_complex" "ideal_of_complex" s_ideal_of_complex_x f fd) (hm : mg "ideal_of_complex" = some (.ref f)) (len : ∀ W xs st Q, sp W xs st Q → xs.length = 2) (sem : ∀ W xs st Q, sp W xs st Q → rd_ideal_of_complex_x (fun x kvs _ st' => FgX W x kvs st') sp_least_lacking sp_product_of_vertices sp_made_x { nx := fun _ st' => Fg Q (.d .none) st', rt := Fg Q } (startD 3 xs) st) : ClX P w K mg base "ideal_of_complex" 4 sp :=
  ⟨f, fd, ["v", "facets"], hm, Fu.kp, fn_okX (t := fun W => rd_ideal_of_complex_x W sp_least_lacking sp_product_of_vertices sp_made_x) Fu S_ideal_of_complex_x len (fun W => d_ideal_of_complex_x T C_least_lacking C_product_of_vertices C_made_x W) sem, Fu.binds fun _ _ _ _ _ _ us hl => match us, hl with | [_, _], _ => rfl⟩
abbrev s_law_limit_c : Stmt := top 46
abbrev N_law_limit_c : List Str := ["call", "e"]
theorem S_law_limit_c : FnScope N_law_limit_c ["call"] (defScope s_law_limit_c) := ⟨rfl, rfl, rfl, by decide +kernel, rfl, by decide +kernel, by decide +kernel⟩
theorem v_law_limit_c_1 : visB N_law_limit_c (defScope s_law_limit_c) 1 "e" = true := by decide +kernel
theorem l_law_limit_c_1 : locB N_law_limit_c (defScope s_law_limit_c) (defScope s_law_limit_c) 1 "e" = true := by decide +kernel
theorem g_law_limit_c_TooMany : glB (defScope s_law_limit_c) "TooMany" = true := by decide +kernel
theorem v_law_limit_c_0 : visB N_law_limit_c (defScope s_law_limit_c) 0 "call" = true := by decide +kernel
set_option maxHeartbeats 4000000 in
theorem d_law_limit_c (T : Tx mg)  {C_NotIdeal C_TooMany C_TooGreat C_NotSquarefree : Addr} (ER : Errs K mg ["limit", "place", "rule"] "JointError" [("NotIdeal", C_NotIdeal), ("TooMany", C_TooMany), ("TooGreat", C_TooGreat), ("NotSquarefree", C_NotSquarefree)]) : ∀ kt, ToldD P w K mg base N_law_limit_c (defScope s_law_limit_c) "call" (defBody s_law_limit_c) kt rd_law_limit_c := by
  intro kt G Xt tc c hst act
  exact (ds_tryR c hst g_law_limit_c_TooMany (ER.takers1 (by simp) (ER.cls ("TooMany", C_TooMany) (by simp)).m) l_law_limit_c_1 (by decide +kernel) (fun W pn xe imp c L => (ds_one (ds_expr (act W pn xe imp c L _ _))))
    (ds_one (ds_ret de_non))
    (fun x C a d oe pn hm ho hbr hz hf => su_ret (su_xf c l_law_limit_c_1 (by decide +kernel) v_law_limit_c_1 (ER.ei (by rw [of_decide_eq_true ho]; simp) hm) (ER.nof (by rw [of_decide_eq_true ho]; simp) (by simp) hm) hz hf (hbr (by rw [of_decide_eq_true ho]; decide)) (by simp))))
theorem o_law_limit_c (T : Tx mg)  {C_NotIdeal C_TooMany C_TooGreat C_NotSquarefree : Addr} (ER : Errs K mg ["limit", "place", "rule"] "JointError" [("NotIdeal", C_NotIdeal), ("TooMany", C_TooMany), ("TooGreat", C_TooGreat), ("NotSquarefree", C_NotSquarefree)]) {f : Addr} {fd : FuncData} (Fu : Fun K "_law_limit" "_law_limit" s_law_limit_c f fd) (hm : mg "_law_limit" = some (.ref f)) : ClT P w K mg base "_law_limit" 2 rd_law_limit_c :=
  ⟨f, fd, s_law_limit_c, N_law_limit_c, "call", hm, Fu, Fu.binds fun _ _ _ _ _ _ us hl => match us, hl with | [_], _ => rfl, S_law_limit_c, v_law_limit_c_0, rfl, d_law_limit_c T ER⟩
abbrev s_support_of : Stmt := top 8
abbrev N_support_of : List Str := ["monomial", "variable", "exponent"]
theorem S_support_of : FnScope N_support_of ["monomial"] (defScope s_support_of) := ⟨rfl, rfl, rfl, by decide +kernel, rfl, by decide +kernel, by decide +kernel⟩
theorem v_support_of_0 : visB N_support_of (defScope s_support_of) 0 "monomial" = true := by decide +kernel
theorem g_support_of_enumerate : glB (defScope s_support_of) "enumerate" = true := by decide +kernel
theorem g_support_of_tuple : glB (defScope s_support_of) "tuple" = true := by decide +kernel
set_option maxHeartbeats 4000000 in
theorem d_support_of  (T : Tx mg)  : ∀ X, Cok P w K mg base X N_support_of (defScope s_support_of) (defScope s_support_of) 0 → DSs X (defBody s_support_of) (rd_support_of) := fun X c =>
  (ds_one (ds_ret (de_ct c g_support_of_tuple T.b_tuple bt_tuple c_tuple (da_cons (de_lc false [("variable", 1), ("exponent", 2)] c (by decide +kernel) (by decide) (di_enum c g_support_of_enumerate T.b_enumerate (da_cons (de_var c v_support_of_0) da_nil)) (fun _ c1 => (dg_tup c1 (dgs_cons (dg_name c1 (by decide +kernel)) (dgs_cons (dg_name c1 (by decide +kernel)) dgs_nil)))) (fun _ c1 => (dts_one (dt_cp op_qGt rfl (de_var c1 (by decide +kernel)) de_int))) (fun _ c1 => (de_var c1 (by decide +kernel)))) da_nil))))
theorem o_support_of  (T : Tx mg)  {f : Addr} {fd : FuncData} {sp : SpD} (Fu : Fun K "support_of" "support_of" s_support_of f fd) (hm : mg "support_of" = some (.ref f)) (len : ∀ xs st Q, sp xs st Q → xs.length = 1) (sem : ∀ xs st Q, sp xs st Q → rd_support_of { nx := fun _ st' => Fg Q (.d .none) st', rt := Fg Q } (startD 3 xs) st) : Cl P w K mg base "support_of" 1 sp :=
  ⟨f, fd, ["monomial"], hm, Fu.kp, fn_ok Fu S_support_of len (d_support_of T ) sem, Fu.binds fun _ _ _ _ _ _ us hl => match us, hl with | [_], _ => rfl⟩
abbrev s_is_inside : Stmt := top 22
abbrev N_is_inside : List Str := ["face", "other", "vertex"]
theorem S_is_inside : FnScope N_is_inside ["face", "other"] (defScope s_is_inside) := ⟨rfl, rfl, rfl, by decide +kernel, rfl, by decide +kernel, by decide +kernel⟩
theorem v_is_inside_0 : visB N_is_inside (defScope s_is_inside) 0 "face" = true := by decide +kernel
theorem v_is_inside_1 : visB N_is_inside (defScope s_is_inside) 1 "other" = true := by decide +kernel
theorem v_is_inside_2 : visB N_is_inside (defScope s_is_inside) 2 "vertex" = true := by decide +kernel
theorem l_is_inside_2 : locB N_is_inside (defScope s_is_inside) (defScope s_is_inside) 2 "vertex" = true := by decide +kernel
set_option maxHeartbeats 4000000 in
theorem d_is_inside  (T : Tx mg)  : ∀ X, Cok P w K mg base X N_is_inside (defScope s_is_inside) (defScope s_is_inside) 0 → DSs X (defBody s_is_inside) (rd_is_inside) := fun X c =>
  (ds_cons (ds_for c (di_seq (de_var c v_is_inside_0)) (dg_name c l_is_inside_2) (ds_one (ds_if (dt_cp (op_qNotIn c.hu65) rfl (de_var c v_is_inside_2) (de_var c v_is_inside_1)) (ds_one (ds_ret de_bl)) ds_nil)))
  (ds_one (ds_ret de_bl)))
theorem o_is_inside  (T : Tx mg)  {f : Addr} {fd : FuncData} {sp : SpD} (Fu : Fun K "is_inside" "is_inside" s_is_inside f fd) (hm : mg "is_inside" = some (.ref f)) (len : ∀ xs st Q, sp xs st Q → xs.length = 2) (sem : ∀ xs st Q, sp xs st Q → rd_is_inside { nx := fun _ st' => Fg Q (.d .none) st', rt := Fg Q } (startD 3 xs) st) : Cl P w K mg base "is_inside" 1 sp :=
  ⟨f, fd, ["face", "other"], hm, Fu.kp, fn_ok Fu S_is_inside len (d_is_inside T ) sem, Fu.binds fun _ _ _ _ _ _ us hl => match us, hl with | [_, _], _ => rfl⟩
abbrev s_complex_of_ideal_x : Stmt := top 28
abbrev N_complex_of_ideal_x : List Str := ["ideal", "n", "generators", "supports", "found", "size", "face", "monomial", "support", "other"]
theorem S_complex_of_ideal_x : FnScope N_complex_of_ideal_x ["ideal"] (defScope s_complex_of_ideal_x) := ⟨rfl, rfl, rfl, by decide +kernel, rfl, by decide +kernel, by decide +kernel⟩
theorem v_complex_of_ideal_x_0 : visB N_complex_of_ideal_x (defScope s_complex_of_ideal_x) 0 "ideal" = true := by decide +kernel
theorem v_complex_of_ideal_x_1 : visB N_complex_of_ideal_x (defScope s_complex_of_ideal_x) 1 "n" = true := by decide +kernel
theorem l_complex_of_ideal_x_1 : locB N_complex_of_ideal_x (defScope s_complex_of_ideal_x) (defScope s_complex_of_ideal_x) 1 "n" = true := by decide +kernel
theorem v_complex_of_ideal_x_2 : visB N_complex_of_ideal_x (defScope s_complex_of_ideal_x) 2 "generators" = true := by decide +kernel
theorem l_complex_of_ideal_x_2 : locB N_complex_of_ideal_x (defScope s_complex_of_ideal_x) (defScope s_complex_of_ideal_x) 2 "generators" = true := by decide +kernel
theorem v_complex_of_ideal_x_3 : visB N_complex_of_ideal_x (defScope s_complex_of_ideal_x) 3 "supports" = true := by decide +kernel
theorem v_complex_of_ideal_x_4 : visB N_complex_of_ideal_x (defScope s_complex_of_ideal_x) 4 "found" = true := by decide +kernel
theorem v_complex_of_ideal_x_5 : visB N_complex_of_ideal_x (defScope s_complex_of_ideal_x) 5 "size" = true := by decide +kernel
theorem l_complex_of_ideal_x_5 : locB N_complex_of_ideal_x (defScope s_complex_of_ideal_x) (defScope s_complex_of_ideal_x) 5 "size" = true := by decide +kernel
theorem v_complex_of_ideal_x_6 : visB N_complex_of_ideal_x (defScope s_complex_of_ideal_x) 6 "face" = true := by decide +kernel
theorem l_complex_of_ideal_x_6 : locB N_complex_of_ideal_x (defScope s_complex_of_ideal_x) (defScope s_complex_of_ideal_x) 6 "face" = true := by decide +kernel
theorem g_complex_of_ideal_x_any : glB (defScope s_complex_of_ideal_x) "any" = true := by decide +kernel
theorem g_complex_of_ideal_x_NotSquarefree : glB (defScope s_complex_of_ideal_x) "NotSquarefree" = true := by decide +kernel
theorem g_complex_of_ideal_x_range : glB (defScope s_complex_of_ideal_x) "range" = true := by decide +kernel
theorem g_complex_of_ideal_x_combinations : glB (defScope s_complex_of_ideal_x) "combinations" = true := by decide +kernel
theorem g_complex_of_ideal_x_sorted : glB (defScope s_complex_of_ideal_x) "sorted" = true := by decide +kernel
theorem g_complex_of_ideal_x_tuple : glB (defScope s_complex_of_ideal_x) "tuple" = true := by decide +kernel
set_option maxHeartbeats 4000000 in
theorem d_complex_of_ideal_x {sp_support_of : SpD} {sp_is_inside : SpD} (T : Tx mg) (C_support_of : Cl P w K mg base "support_of" 1 sp_support_of) (C_is_inside : Cl P w K mg base "is_inside" 1 sp_is_inside) (Z_NotSquarefree : XC0 K mg "NotSquarefree") (W : XWe) : ∀ X, Cok P w K mg base X N_complex_of_ideal_x (defScope s_complex_of_ideal_x) (defScope s_complex_of_ideal_x) 2 → Lx K mg W X → DSs X (defBody s_complex_of_ideal_x) (rd_complex_of_ideal_x W sp_support_of sp_is_inside) := fun X c L =>
  (ds_cons (ds_asg c (de_var c v_complex_of_ideal_x_0) (dg_tup c (dgs_cons (dg_name c l_complex_of_ideal_x_1) (dgs_cons (dg_name c l_complex_of_ideal_x_2) dgs_nil))) rfl rfl)
  (ds_cons (ds_if (dt_val (de_cb c g_complex_of_ideal_x_any T.b_any bb_any (c_any c.calm) (da_cons (de_lc false [("monomial", 7)] c (by decide +kernel) (by decide) (di_seq (de_var c v_complex_of_ideal_x_2)) (fun _ c1 => (dg_name c1 (by decide +kernel))) (fun _ c1 => dts_nil) (fun _ c1 => (de_cp op_qGt rfl (de_cb c1 (by decide +kernel) T.b_max bb_max (c_max1 c1.calm c1.hu65) (da_cons (de_var c1 (by decide +kernel)) da_nil)) de_int))) da_nil))) (ds_one (ds_raise0 c L Z_NotSquarefree g_complex_of_ideal_x_NotSquarefree)) ds_nil)
  (ds_cons (ds_par (i := 3) (j := 4) c (by decide +kernel) (da_cons (de_lc false [("monomial", 7)] c (by decide +kernel) (by decide) (di_seq (de_var c v_complex_of_ideal_x_2)) (fun _ c1 => (dg_name c1 (by decide +kernel))) (fun _ c1 => dts_nil) (fun _ c1 => (de_callC c1 (by decide +kernel) C_support_of (by decide) (da_cons (de_var c1 (by decide +kernel)) da_nil)))) (da_cons (de_lst true da_nil) da_nil)) (by kernel_rfl))
  (ds_cons (ds_for c (di_rng3 c g_complex_of_ideal_x_range T.b_range (da_cons (de_var c v_complex_of_ideal_x_1) (da_cons (de_neg de_int) (da_cons (de_neg de_int) da_nil)))) (dg_name c l_complex_of_ideal_x_5) (ds_one (ds_for c (di_combR c g_complex_of_ideal_x_combinations T.m_combinations g_complex_of_ideal_x_range T.b_range (de_var c v_complex_of_ideal_x_1) (de_var c v_complex_of_ideal_x_5)) (dg_name c l_complex_of_ideal_x_6) (ds_one (ds_if (dt_not (dt_val (de_cb c g_complex_of_ideal_x_any T.b_any bb_any (c_any c.calm) (da_cons (de_lc false [("support", 8)] c (by decide +kernel) (by decide) (di_seq (de_var c v_complex_of_ideal_x_3)) (fun _ c1 => (dg_name c1 (by decide +kernel))) (fun _ c1 => dts_nil) (fun _ c1 => (de_callC c1 (by decide +kernel) C_is_inside (by decide) (da_cons (de_var c1 (by decide +kernel)) (da_cons (de_var c1 (by decide +kernel)) da_nil))))) da_nil)))) (ds_one (ds_if (dt_not (dt_val (de_cb c g_complex_of_ideal_x_any T.b_any bb_any (c_any c.calm) (da_cons (de_lc false [("other", 9)] c (by decide +kernel) (by decide) (di_seq (de_var c v_complex_of_ideal_x_4)) (fun _ c1 => (dg_name c1 (by decide +kernel))) (fun _ c1 => dts_nil) (fun _ c1 => (de_callC c1 (by decide +kernel) C_is_inside (by decide) (da_cons (de_var c1 (by decide +kernel)) (da_cons (de_var c1 (by decide +kernel)) da_nil))))) da_nil)))) (ds_one (ds_expr (de_append (de_var c v_complex_of_ideal_x_4) (de_var c v_complex_of_ideal_x_6)))) ds_nil)) ds_nil)))))
  (ds_one (ds_ret (de_ct c g_complex_of_ideal_x_tuple T.b_tuple bt_tuple c_tuple (da_cons (de_sortD false c g_complex_of_ideal_x_sorted T.b_sorted (de_var c v_complex_of_ideal_x_4)) da_nil))))))))
theorem o_complex_of_ideal_x {sp_support_of : SpD} {sp_is_inside : SpD} (T : Tx mg) (C_support_of : Cl P w K mg base "support_of" 1 sp_support_of) (C_is_inside : Cl P w K mg base "is_inside" 1 sp_is_inside) (Z_NotSquarefree : XC0 K mg "NotSquarefree") {f : Addr} {fd : FuncData} {sp : XWc → SpD} (Fu : Fun K "complex_of_ideal" "complex_of_ideal" s_complex_of_ideal_x f fd) (hm : mg "complex_of_ideal" = some (.ref f)) (len : ∀ W xs st Q, sp W xs st Q → xs.length = 1) (sem : ∀ W xs st Q, sp W xs st Q → rd_complex_of_ideal_x (fun x kvs _ st' => FgX W x kvs st') sp_support_of sp_is_inside { nx := fun _ st' => Fg Q (.d .none) st', rt := Fg Q } (startD 10 xs) st) : ClX P w K mg base "complex_of_ideal" 3 sp :=
  ⟨f, fd, ["ideal"], hm, Fu.kp, fn_okX (t := fun W => rd_complex_of_ideal_x W sp_support_of sp_is_inside) Fu S_complex_of_ideal_x len (fun W => d_complex_of_ideal_x T C_support_of C_is_inside Z_NotSquarefree W) sem, Fu.binds fun _ _ _ _ _ _ us hl => match us, hl with | [_], _ => rfl⟩
abbrev s_law_draw : Stmt := top 31
abbrev N_law_draw : List Str := ["m", "below", "found", "spot", "cells", "extra", "cell", "blend"]
theorem S_law_draw : FnScope N_law_draw ["m", "below"] (defScope s_law_draw) := ⟨rfl, rfl, rfl, by decide +kernel, rfl, by decide +kernel, by decide +kernel⟩
theorem v_law_draw_0 : visB N_law_draw (defScope s_law_draw) 0 "m" = true := by decide +kernel
theorem v_law_draw_1 : visB N_law_draw (defScope s_law_draw) 1 "below" = true := by decide +kernel
theorem v_law_draw_2 : visB N_law_draw (defScope s_law_draw) 2 "found" = true := by decide +kernel
theorem l_law_draw_2 : locB N_law_draw (defScope s_law_draw) (defScope s_law_draw) 2 "found" = true := by decide +kernel
theorem v_law_draw_3 : visB N_law_draw (defScope s_law_draw) 3 "spot" = true := by decide +kernel
theorem l_law_draw_3 : locB N_law_draw (defScope s_law_draw) (defScope s_law_draw) 3 "spot" = true := by decide +kernel
theorem v_law_draw_4 : visB N_law_draw (defScope s_law_draw) 4 "cells" = true := by decide +kernel
theorem v_law_draw_5 : visB N_law_draw (defScope s_law_draw) 5 "extra" = true := by decide +kernel
theorem v_law_draw_6 : visB N_law_draw (defScope s_law_draw) 6 "cell" = true := by decide +kernel
theorem l_law_draw_6 : locB N_law_draw (defScope s_law_draw) (defScope s_law_draw) 6 "cell" = true := by decide +kernel
theorem v_law_draw_7 : visB N_law_draw (defScope s_law_draw) 7 "blend" = true := by decide +kernel
theorem l_law_draw_7 : locB N_law_draw (defScope s_law_draw) (defScope s_law_draw) 7 "blend" = true := by decide +kernel
theorem g_law_draw_int : glB (defScope s_law_draw) "int" = true := by decide +kernel
theorem g_law_draw_len : glB (defScope s_law_draw) "len" = true := by decide +kernel
set_option maxHeartbeats 4000000 in
theorem d_law_draw  (T : Tx mg)  : ∀ X, Cok P w K mg base X N_law_draw (defScope s_law_draw) (defScope s_law_draw) 0 → DSs X (defBody s_law_draw) (rd_law_draw) := fun X c =>
  (ds_cons (ds_if (dt_cp op_qGt rfl (de_dget c (de_var c v_law_draw_0) de_str (fun _ _ => rfl)) de_int) (ds_cons (ds_asg c (de_bin op_qMod (de_ct c g_law_draw_int T.b_int bt_int c_int (da_cons (de_dget c (de_var c v_law_draw_0) de_str (fun _ _ => rfl)) da_nil)) (de_var c v_law_draw_1)) (dg_name c l_law_draw_2) rfl rfl)
      (ds_cons (ds_dput c (de_var c v_law_draw_0) de_str (de_bin op_qFdiv (de_dget c (de_var c v_law_draw_0) de_str (fun _ _ => rfl)) (de_var c v_law_draw_1)) rfl)
      (ds_one (ds_ret (de_var c v_law_draw_2))))) ds_nil)
  (ds_cons (ds_asg c (de_dget c (de_var c v_law_draw_0) de_str (fun _ _ => rfl)) (dg_name c l_law_draw_3) rfl rfl)
  (ds_cons (ds_dput c (de_var c v_law_draw_0) de_str (de_bin (op_qAdd false) (de_var c v_law_draw_3) de_int) rfl)
  (ds_cons (ds_par (i := 4) (j := 5) c (by decide +kernel) (da_cons (de_dget c (de_var c v_law_draw_0) de_str (fun _ _ => rfl)) (da_cons (de_bin (op_qAdd false) (de_dget c (de_var c v_law_draw_0) de_str (fun _ _ => rfl)) (de_bin (op_qMul false) (de_bin (op_qMul false) de_int (de_var c v_law_draw_3)) (de_var c v_law_draw_3))) da_nil)) (by kernel_rfl))
  (ds_cons (ds_asg c (de_ix (de_var c v_law_draw_4) (de_bin op_qMod (de_ct c g_law_draw_int T.b_int bt_int c_int (da_cons (de_var c v_law_draw_3) da_nil)) (de_cb c g_law_draw_len T.b_len bb_len c_len (da_cons (de_var c v_law_draw_4) da_nil))) (fun _ _ => rfl)) (dg_name c l_law_draw_6) rfl rfl)
  (ds_cons (ds_asg c (de_bin op_qMod (de_ct c g_law_draw_int T.b_int bt_int c_int (da_cons (de_bin (op_qAdd false) (de_bin (op_qMul false) (de_var c v_law_draw_6) (de_bin (op_qAdd false) (de_bin (op_qMul false) de_int (de_var c v_law_draw_3)) de_int)) (de_var c v_law_draw_5)) da_nil)) de_int) (dg_name c l_law_draw_7) rfl rfl)
  (ds_cons (ds_asg c (de_bin op_qMod (de_ct c g_law_draw_int T.b_int bt_int c_int (da_cons (de_bin (op_qAdd false) (de_bin (op_qAdd false) (de_bin (op_qMul false) (de_var c v_law_draw_7) (de_var c v_law_draw_7)) (de_bin (op_qMul false) de_int (de_var c v_law_draw_3))) (de_dget c (de_var c v_law_draw_0) de_str (fun _ _ => rfl))) da_nil)) de_int) (dg_name c l_law_draw_7) rfl rfl)
  (ds_one (ds_ret (de_bin op_qMod (de_bin op_qFdiv (de_bin op_qMod (de_ct c g_law_draw_int T.b_int bt_int c_int (da_cons (de_bin (op_qAdd false) (de_bin (op_qMul false) (de_var c v_law_draw_7) de_int) (de_var c v_law_draw_3)) da_nil)) de_int) de_int) (de_var c v_law_draw_1)))))))))))
theorem o_law_draw  (T : Tx mg)  {f : Addr} {fd : FuncData} {sp : SpD} (Fu : Fun K "_law_draw" "_law_draw" s_law_draw f fd) (hm : mg "_law_draw" = some (.ref f)) (len : ∀ xs st Q, sp xs st Q → xs.length = 2) (sem : ∀ xs st Q, sp xs st Q → rd_law_draw { nx := fun _ st' => Fg Q (.d .none) st', rt := Fg Q } (startD 8 xs) st) : Cl P w K mg base "_law_draw" 1 sp :=
  ⟨f, fd, ["m", "below"], hm, Fu.kp, fn_ok Fu S_law_draw len (d_law_draw T ) sem, Fu.binds fun _ _ _ _ _ _ us hl => match us, hl with | [_, _], _ => rfl⟩
abbrev s_law_of : Stmt := top 32
abbrev N_law_of : List Str := ["m", "some"]
theorem S_law_of : FnScope N_law_of ["m", "some"] (defScope s_law_of) := ⟨rfl, rfl, rfl, by decide +kernel, rfl, by decide +kernel, by decide +kernel⟩
theorem v_law_of_0 : visB N_law_of (defScope s_law_of) 0 "m" = true := by decide +kernel
theorem v_law_of_1 : visB N_law_of (defScope s_law_of) 1 "some" = true := by decide +kernel
theorem g_law_of_len : glB (defScope s_law_of) "len" = true := by decide +kernel
theorem g_law_of_law_draw : glB (defScope s_law_of) "_law_draw" = true := by decide +kernel
set_option maxHeartbeats 4000000 in
theorem d_law_of {sp_law_draw : SpD} (T : Tx mg) (C_law_draw : Cl P w K mg base "_law_draw" 1 sp_law_draw) : ∀ X, Cok P w K mg base X N_law_of (defScope s_law_of) (defScope s_law_of) 1 → DSs X (defBody s_law_of) (rd_law_of sp_law_draw) := fun X c =>
  (ds_one (ds_ret (de_ix (de_var c v_law_of_1) (de_callC c g_law_of_law_draw C_law_draw (by decide) (da_cons (de_var c v_law_of_0) (da_cons (de_cb c g_law_of_len T.b_len bb_len c_len (da_cons (de_var c v_law_of_1) da_nil)) da_nil))) (fun _ _ => rfl))))
theorem o_law_of {sp_law_draw : SpD} (T : Tx mg) (C_law_draw : Cl P w K mg base "_law_draw" 1 sp_law_draw) {f : Addr} {fd : FuncData} {sp : SpD} (Fu : Fun K "_law_of" "_law_of" s_law_of f fd) (hm : mg "_law_of" = some (.ref f)) (len : ∀ xs st Q, sp xs st Q → xs.length = 2) (sem : ∀ xs st Q, sp xs st Q → rd_law_of sp_law_draw { nx := fun _ st' => Fg Q (.d .none) st', rt := Fg Q } (startD 2 xs) st) : Cl P w K mg base "_law_of" 2 sp :=
  ⟨f, fd, ["m", "some"], hm, Fu.kp, fn_ok Fu S_law_of len (d_law_of T C_law_draw) sem, Fu.binds fun _ _ _ _ _ _ us hl => match us, hl with | [_, _], _ => rfl⟩
abbrev s_law_inside : Stmt := top 40
abbrev N_law_inside : List Str := ["face", "other", "one"]
theorem S_law_inside : FnScope N_law_inside ["face", "other"] (defScope s_law_inside) := ⟨rfl, rfl, rfl, by decide +kernel, rfl, by decide +kernel, by decide +kernel⟩
theorem v_law_inside_0 : visB N_law_inside (defScope s_law_inside) 0 "face" = true := by decide +kernel
set_option maxHeartbeats 4000000 in
theorem d_law_inside  (T : Tx mg)  : ∀ X, Cok P w K mg base X N_law_inside (defScope s_law_inside) (defScope s_law_inside) 0 → DSs X (defBody s_law_inside) (rd_law_inside) := fun X c =>
  (ds_one (ds_ret (de_cp (op_qEq c.hu64) rfl (de_lc false [("one", 2)] c (by decide +kernel) (by decide) (di_seq (de_var c v_law_inside_0)) (fun _ c1 => (dg_name c1 (by decide +kernel))) (fun _ c1 => (dts_one (dt_cp (op_qNotIn c1.hu65) rfl (de_var c1 (by decide +kernel)) (de_var c1 (by decide +kernel))))) (fun _ c1 => (de_var c1 (by decide +kernel)))) (de_lst false da_nil))))
theorem o_law_inside  (T : Tx mg)  {f : Addr} {fd : FuncData} {sp : SpD} (Fu : Fun K "_law_inside" "_law_inside" s_law_inside f fd) (hm : mg "_law_inside" = some (.ref f)) (len : ∀ xs st Q, sp xs st Q → xs.length = 2) (sem : ∀ xs st Q, sp xs st Q → rd_law_inside { nx := fun _ st' => Fg Q (.d .none) st', rt := Fg Q } (startD 3 xs) st) : Cl P w K mg base "_law_inside" 1 sp :=
  ⟨f, fd, ["face", "other"], hm, Fu.kp, fn_ok Fu S_law_inside len (d_law_inside T ) sem, Fu.binds fun _ _ _ _ _ _ us hl => match us, hl with | [_, _], _ => rfl⟩
abbrev s_law_facets : Stmt := top 41
abbrev N_law_facets : List Str := ["faces", "some", "a", "b"]
theorem S_law_facets : FnScope N_law_facets ["faces"] (defScope s_law_facets) := ⟨rfl, rfl, rfl, by decide +kernel, rfl, by decide +kernel, by decide +kernel⟩
theorem v_law_facets_0 : visB N_law_facets (defScope s_law_facets) 0 "faces" = true := by decide +kernel
theorem v_law_facets_1 : visB N_law_facets (defScope s_law_facets) 1 "some" = true := by decide +kernel
theorem l_law_facets_1 : locB N_law_facets (defScope s_law_facets) (defScope s_law_facets) 1 "some" = true := by decide +kernel
theorem g_law_facets_sorted : glB (defScope s_law_facets) "sorted" = true := by decide +kernel
theorem g_law_facets_set : glB (defScope s_law_facets) "set" = true := by decide +kernel
theorem g_law_facets_tuple : glB (defScope s_law_facets) "tuple" = true := by decide +kernel
set_option maxHeartbeats 4000000 in
theorem d_law_facets {sp_law_inside : SpD} (T : Tx mg) (C_law_inside : Cl P w K mg base "_law_inside" 1 sp_law_inside) : ∀ X, Cok P w K mg base X N_law_facets (defScope s_law_facets) (defScope s_law_facets) 1 → DSs X (defBody s_law_facets) (rd_law_facets sp_law_inside) := fun X c =>
  (ds_cons (ds_asg c (BS.de_sortB false c g_law_facets_sorted T.b_sorted g_law_facets_set T.b_set (de_var c v_law_facets_0)) (dg_name c l_law_facets_1) rfl rfl)
  (ds_one (ds_ret (de_ct c g_law_facets_tuple T.b_tuple bt_tuple c_tuple (da_cons (de_lc false [("a", 2)] c (by decide +kernel) (by decide) (di_seq (de_var c v_law_facets_1)) (fun _ c1 => (dg_name c1 (by decide +kernel))) (fun _ c1 => (dts_one (dt_cp (op_qEq c1.hu64) rfl (de_lc false [("b", 3)] c1 (by decide +kernel) (by decide) (di_seq (de_var c1 (by decide +kernel))) (fun _ c2 => (dg_name c2 (by decide +kernel))) (fun _ c2 => (dts_one (DW.pt (dw_and (dt_cp (op_qNe c2.hu64) rfl (de_var c2 (by decide +kernel)) (de_var c2 (by decide +kernel))) (dw_and1 (dt_val (de_callC c2 (by decide +kernel) C_law_inside (by decide) (da_cons (de_var c2 (by decide +kernel)) (da_cons (de_var c2 (by decide +kernel)) da_nil))))))))) (fun _ c2 => (de_var c2 (by decide +kernel)))) (de_lst false da_nil)))) (fun _ c1 => (de_var c1 (by decide +kernel)))) da_nil)))))
theorem o_law_facets {sp_law_inside : SpD} (T : Tx mg) (C_law_inside : Cl P w K mg base "_law_inside" 1 sp_law_inside) {f : Addr} {fd : FuncData} {sp : SpD} (Fu : Fun K "_law_facets" "_law_facets" s_law_facets f fd) (hm : mg "_law_facets" = some (.ref f)) (len : ∀ xs st Q, sp xs st Q → xs.length = 1) (sem : ∀ xs st Q, sp xs st Q → rd_law_facets sp_law_inside { nx := fun _ st' => Fg Q (.d .none) st', rt := Fg Q } (startD 4 xs) st) : Cl P w K mg base "_law_facets" 2 sp :=
  ⟨f, fd, ["faces"], hm, Fu.kp, fn_ok Fu S_law_facets len (d_law_facets T C_law_inside) sem, Fu.binds fun _ _ _ _ _ _ us hl => match us, hl with | [_], _ => rfl⟩
abbrev s_law_drawn_set : Stmt := top 43
abbrev N_law_drawn_set : List Str := ["m", "v", "odds", "k"]
theorem S_law_drawn_set : FnScope N_law_drawn_set ["m", "v", "odds"] (defScope s_law_drawn_set) := ⟨rfl, rfl, rfl, by decide +kernel, rfl, by decide +kernel, by decide +kernel⟩
theorem v_law_drawn_set_1 : visB N_law_drawn_set (defScope s_law_drawn_set) 1 "v" = true := by decide +kernel
theorem g_law_drawn_set_range : glB (defScope s_law_drawn_set) "range" = true := by decide +kernel
theorem g_law_drawn_set_tuple : glB (defScope s_law_drawn_set) "tuple" = true := by decide +kernel
set_option maxHeartbeats 4000000 in
theorem d_law_drawn_set {sp_law_draw : SpD} (T : Tx mg) (C_law_draw : Cl P w K mg base "_law_draw" 1 sp_law_draw) : ∀ X, Cok P w K mg base X N_law_drawn_set (defScope s_law_drawn_set) (defScope s_law_drawn_set) 1 → DSs X (defBody s_law_drawn_set) (rd_law_drawn_set sp_law_draw) := fun X c =>
  (ds_one (ds_ret (de_ct c g_law_drawn_set_tuple T.b_tuple bt_tuple c_tuple (da_cons (de_lc false [("k", 3)] c (by decide +kernel) (by decide) (di_rng1 c g_law_drawn_set_range T.b_range (da_cons (de_var c v_law_drawn_set_1) da_nil)) (fun _ c1 => (dg_name c1 (by decide +kernel))) (fun _ c1 => (dts_one (dt_cp op_qGt rfl (de_callC c1 (by decide +kernel) C_law_draw (by decide) (da_cons (de_var c1 (by decide +kernel)) (da_cons (de_var c1 (by decide +kernel)) da_nil))) de_int))) (fun _ c1 => (de_var c1 (by decide +kernel)))) da_nil))))
theorem o_law_drawn_set {sp_law_draw : SpD} (T : Tx mg) (C_law_draw : Cl P w K mg base "_law_draw" 1 sp_law_draw) {f : Addr} {fd : FuncData} {sp : SpD} (Fu : Fun K "_law_drawn_set" "_law_drawn_set" s_law_drawn_set f fd) (hm : mg "_law_drawn_set" = some (.ref f)) (len : ∀ xs st Q, sp xs st Q → xs.length = 3) (sem : ∀ xs st Q, sp xs st Q → rd_law_drawn_set sp_law_draw { nx := fun _ st' => Fg Q (.d .none) st', rt := Fg Q } (startD 4 xs) st) : Cl P w K mg base "_law_drawn_set" 2 sp :=
  ⟨f, fd, ["m", "v", "odds"], hm, Fu.kp, fn_ok Fu S_law_drawn_set len (d_law_drawn_set T C_law_draw) sem, Fu.binds fun _ _ _ _ _ _ us hl => match us, hl with | [_, _, _], _ => rfl⟩
abbrev s_law_complex : Stmt := top 44
abbrev N_law_complex : List Str := ["m", "v", "pick", "odds", "k"]
theorem S_law_complex : FnScope N_law_complex ["m", "v"] (defScope s_law_complex) := ⟨rfl, rfl, rfl, by decide +kernel, rfl, by decide +kernel, by decide +kernel⟩
theorem v_law_complex_0 : visB N_law_complex (defScope s_law_complex) 0 "m" = true := by decide +kernel
theorem v_law_complex_2 : visB N_law_complex (defScope s_law_complex) 2 "pick" = true := by decide +kernel
theorem l_law_complex_2 : locB N_law_complex (defScope s_law_complex) (defScope s_law_complex) 2 "pick" = true := by decide +kernel
theorem l_law_complex_3 : locB N_law_complex (defScope s_law_complex) (defScope s_law_complex) 3 "odds" = true := by decide +kernel
theorem g_law_complex_law_draw : glB (defScope s_law_complex) "_law_draw" = true := by decide +kernel
theorem g_law_complex_law_of : glB (defScope s_law_complex) "_law_of" = true := by decide +kernel
theorem g_law_complex_range : glB (defScope s_law_complex) "range" = true := by decide +kernel
theorem g_law_complex_law_facets : glB (defScope s_law_complex) "_law_facets" = true := by decide +kernel
set_option maxHeartbeats 4000000 in
theorem d_law_complex {sp_law_draw : SpD} {sp_law_of : SpD} {sp_law_drawn_set : SpD} {sp_law_facets : SpD} (T : Tx mg) (C_law_draw : Cl P w K mg base "_law_draw" 1 sp_law_draw) (C_law_of : Cl P w K mg base "_law_of" 2 sp_law_of) (C_law_drawn_set : Cl P w K mg base "_law_drawn_set" 2 sp_law_drawn_set) (C_law_facets : Cl P w K mg base "_law_facets" 2 sp_law_facets) : ∀ X, Cok P w K mg base X N_law_complex (defScope s_law_complex) (defScope s_law_complex) 2 → DSs X (defBody s_law_complex) (rd_law_complex sp_law_draw sp_law_of sp_law_drawn_set sp_law_facets) := fun X c =>
  (ds_cons (ds_asg c (de_callC c g_law_complex_law_draw C_law_draw (by decide) (da_cons (de_var c v_law_complex_0) (da_cons de_int da_nil))) (dg_name c l_law_complex_2) rfl rfl)
  (ds_cons (ds_if (dt_cp (op_qLt c.hu0) rfl (de_var c v_law_complex_2) de_int) (ds_one (ds_ret (de_if (dt_cp (op_qEq c.hu64) rfl (de_var c v_law_complex_2) de_int) (de_tup (da_cons (de_tup da_nil) da_nil)) (de_tup da_nil)))) ds_nil)
  (ds_cons (ds_asg c (de_callC c g_law_complex_law_of C_law_of (by decide) (da_cons (de_var c v_law_complex_0) (da_cons (de_lst false (da_cons de_int (da_cons de_int (da_cons de_int (da_cons de_int da_nil))))) da_nil))) (dg_name c l_law_complex_3) rfl rfl)
  (ds_one (ds_ret (de_callC c g_law_complex_law_facets C_law_facets (by decide) (da_cons (de_lc false [("k", 4)] c (by decide +kernel) (by decide) (di_rng1 c g_law_complex_range T.b_range (da_cons (de_bin (op_qAdd false) de_int (de_callC c g_law_complex_law_draw C_law_draw (by decide) (da_cons (de_var c v_law_complex_0) (da_cons de_int da_nil)))) da_nil)) (fun _ c1 => (dg_name c1 (by decide +kernel))) (fun _ c1 => dts_nil) (fun _ c1 => (de_callC c1 (by decide +kernel) C_law_drawn_set (by decide) (da_cons (de_var c1 (by decide +kernel)) (da_cons (de_var c1 (by decide +kernel)) (da_cons (de_var c1 (by decide +kernel)) da_nil)))))) da_nil)))))))
theorem o_law_complex {sp_law_draw : SpD} {sp_law_of : SpD} {sp_law_drawn_set : SpD} {sp_law_facets : SpD} (T : Tx mg) (C_law_draw : Cl P w K mg base "_law_draw" 1 sp_law_draw) (C_law_of : Cl P w K mg base "_law_of" 2 sp_law_of) (C_law_drawn_set : Cl P w K mg base "_law_drawn_set" 2 sp_law_drawn_set) (C_law_facets : Cl P w K mg base "_law_facets" 2 sp_law_facets) {f : Addr} {fd : FuncData} {sp : SpD} (Fu : Fun K "_law_complex" "_law_complex" s_law_complex f fd) (hm : mg "_law_complex" = some (.ref f)) (len : ∀ xs st Q, sp xs st Q → xs.length = 2) (sem : ∀ xs st Q, sp xs st Q → rd_law_complex sp_law_draw sp_law_of sp_law_drawn_set sp_law_facets { nx := fun _ st' => Fg Q (.d .none) st', rt := Fg Q } (startD 5 xs) st) : Cl P w K mg base "_law_complex" 3 sp :=
  ⟨f, fd, ["m", "v"], hm, Fu.kp, fn_ok Fu S_law_complex len (d_law_complex T C_law_draw C_law_of C_law_drawn_set C_law_facets) sem, Fu.binds fun _ _ _ _ _ _ us hl => match us, hl with | [_, _], _ => rfl⟩
abbrev s_law_monomial : Stmt := top 36
abbrev N_law_monomial : List Str := ["m", "n", "top", "k"]
theorem S_law_monomial : FnScope N_law_monomial ["m", "n", "top"] (defScope s_law_monomial) := ⟨rfl, rfl, rfl, by decide +kernel, rfl, by decide +kernel, by decide +kernel⟩
theorem v_law_monomial_1 : visB N_law_monomial (defScope s_law_monomial) 1 "n" = true := by decide +kernel
theorem g_law_monomial_range : glB (defScope s_law_monomial) "range" = true := by decide +kernel
theorem g_law_monomial_tuple : glB (defScope s_law_monomial) "tuple" = true := by decide +kernel
set_option maxHeartbeats 4000000 in
theorem d_law_monomial {sp_law_draw : SpD} (T : Tx mg) (C_law_draw : Cl P w K mg base "_law_draw" 1 sp_law_draw) : ∀ X, Cok P w K mg base X N_law_monomial (defScope s_law_monomial) (defScope s_law_monomial) 1 → DSs X (defBody s_law_monomial) (rd_law_monomial sp_law_draw) := fun X c =>
  (ds_one (ds_ret (de_ct c g_law_monomial_tuple T.b_tuple bt_tuple c_tuple (da_cons (de_lc false [("k", 3)] c (by decide +kernel) (by decide) (di_rng1 c g_law_monomial_range T.b_range (da_cons (de_var c v_law_monomial_1) da_nil)) (fun _ c1 => (dg_name c1 (by decide +kernel))) (fun _ c1 => dts_nil) (fun _ c1 => (de_if (dt_cp op_qGt rfl (de_callC c1 (by decide +kernel) C_law_draw (by decide) (da_cons (de_var c1 (by decide +kernel)) (da_cons de_int da_nil))) de_int) (de_callC c1 (by decide +kernel) C_law_draw (by decide) (da_cons (de_var c1 (by decide +kernel)) (da_cons (de_bin (op_qAdd false) (de_var c1 (by decide +kernel)) de_int) da_nil))) de_int))) da_nil))))
theorem o_law_monomial {sp_law_draw : SpD} (T : Tx mg) (C_law_draw : Cl P w K mg base "_law_draw" 1 sp_law_draw) {f : Addr} {fd : FuncData} {sp : SpD} (Fu : Fun K "_law_monomial" "_law_monomial" s_law_monomial f fd) (hm : mg "_law_monomial" = some (.ref f)) (len : ∀ xs st Q, sp xs st Q → xs.length = 3) (sem : ∀ xs st Q, sp xs st Q → rd_law_monomial sp_law_draw { nx := fun _ st' => Fg Q (.d .none) st', rt := Fg Q } (startD 4 xs) st) : Cl P w K mg base "_law_monomial" 2 sp :=
  ⟨f, fd, ["m", "n", "top"], hm, Fu.kp, fn_ok Fu S_law_monomial len (d_law_monomial T C_law_draw) sem, Fu.binds fun _ _ _ _ _ _ us hl => match us, hl with | [_, _, _], _ => rfl⟩
abbrev s_law_divides : Stmt := top 33
abbrev N_law_divides : List Str := ["a", "b", "k"]
theorem S_law_divides : FnScope N_law_divides ["a", "b"] (defScope s_law_divides) := ⟨rfl, rfl, rfl, by decide +kernel, rfl, by decide +kernel, by decide +kernel⟩
theorem v_law_divides_0 : visB N_law_divides (defScope s_law_divides) 0 "a" = true := by decide +kernel
theorem g_law_divides_len : glB (defScope s_law_divides) "len" = true := by decide +kernel
theorem g_law_divides_range : glB (defScope s_law_divides) "range" = true := by decide +kernel
set_option maxHeartbeats 4000000 in
theorem d_law_divides  (T : Tx mg)  : ∀ X, Cok P w K mg base X N_law_divides (defScope s_law_divides) (defScope s_law_divides) 0 → DSs X (defBody s_law_divides) (rd_law_divides) := fun X c =>
  (ds_one (ds_ret (de_cp (op_qEq c.hu64) rfl (de_lc false [("k", 2)] c (by decide +kernel) (by decide) (di_rng1 c g_law_divides_range T.b_range (da_cons (de_cb c g_law_divides_len T.b_len bb_len c_len (da_cons (de_var c v_law_divides_0) da_nil)) da_nil)) (fun _ c1 => (dg_name c1 (by decide +kernel))) (fun _ c1 => (dts_one (dt_cp op_qGt rfl (de_ix (de_var c1 (by decide +kernel)) (de_var c1 (by decide +kernel)) (fun _ _ => rfl)) (de_ix (de_var c1 (by decide +kernel)) (de_var c1 (by decide +kernel)) (fun _ _ => rfl))))) (fun _ c1 => (de_var c1 (by decide +kernel)))) (de_lst false da_nil))))
theorem o_law_divides  (T : Tx mg)  {f : Addr} {fd : FuncData} {sp : SpD} (Fu : Fun K "_law_divides" "_law_divides" s_law_divides f fd) (hm : mg "_law_divides" = some (.ref f)) (len : ∀ xs st Q, sp xs st Q → xs.length = 2) (sem : ∀ xs st Q, sp xs st Q → rd_law_divides { nx := fun _ st' => Fg Q (.d .none) st', rt := Fg Q } (startD 3 xs) st) : Cl P w K mg base "_law_divides" 1 sp :=
  ⟨f, fd, ["a", "b"], hm, Fu.kp, fn_ok Fu S_law_divides len (d_law_divides T ) sem, Fu.binds fun _ _ _ _ _ _ us hl => match us, hl with | [_, _], _ => rfl⟩
abbrev s_law_least : Stmt := top 34
abbrev N_law_least : List Str := ["monomials", "some", "a", "b"]
theorem S_law_least : FnScope N_law_least ["monomials"] (defScope s_law_least) := ⟨rfl, rfl, rfl, by decide +kernel, rfl, by decide +kernel, by decide +kernel⟩
theorem v_law_least_0 : visB N_law_least (defScope s_law_least) 0 "monomials" = true := by decide +kernel
theorem v_law_least_1 : visB N_law_least (defScope s_law_least) 1 "some" = true := by decide +kernel
theorem l_law_least_1 : locB N_law_least (defScope s_law_least) (defScope s_law_least) 1 "some" = true := by decide +kernel
theorem g_law_least_sorted : glB (defScope s_law_least) "sorted" = true := by decide +kernel
theorem g_law_least_set : glB (defScope s_law_least) "set" = true := by decide +kernel
theorem g_law_least_tuple : glB (defScope s_law_least) "tuple" = true := by decide +kernel
set_option maxHeartbeats 4000000 in
theorem d_law_least {sp_law_divides : SpD} (T : Tx mg) (C_law_divides : Cl P w K mg base "_law_divides" 1 sp_law_divides) : ∀ X, Cok P w K mg base X N_law_least (defScope s_law_least) (defScope s_law_least) 1 → DSs X (defBody s_law_least) (rd_law_least sp_law_divides) := fun X c =>
  (ds_cons (ds_asg c (BS.de_sortB false c g_law_least_sorted T.b_sorted g_law_least_set T.b_set (de_var c v_law_least_0)) (dg_name c l_law_least_1) rfl rfl)
  (ds_one (ds_ret (de_ct c g_law_least_tuple T.b_tuple bt_tuple c_tuple (da_cons (de_lc false [("a", 2)] c (by decide +kernel) (by decide) (di_seq (de_var c v_law_least_1)) (fun _ c1 => (dg_name c1 (by decide +kernel))) (fun _ c1 => (dts_one (dt_cp (op_qEq c1.hu64) rfl (de_lc false [("b", 3)] c1 (by decide +kernel) (by decide) (di_seq (de_var c1 (by decide +kernel))) (fun _ c2 => (dg_name c2 (by decide +kernel))) (fun _ c2 => (dts_one (DW.pt (dw_and (dt_cp (op_qNe c2.hu64) rfl (de_var c2 (by decide +kernel)) (de_var c2 (by decide +kernel))) (dw_and1 (dt_val (de_callC c2 (by decide +kernel) C_law_divides (by decide) (da_cons (de_var c2 (by decide +kernel)) (da_cons (de_var c2 (by decide +kernel)) da_nil))))))))) (fun _ c2 => (de_var c2 (by decide +kernel)))) (de_lst false da_nil)))) (fun _ c1 => (de_var c1 (by decide +kernel)))) da_nil)))))
theorem o_law_least {sp_law_divides : SpD} (T : Tx mg) (C_law_divides : Cl P w K mg base "_law_divides" 1 sp_law_divides) {f : Addr} {fd : FuncData} {sp : SpD} (Fu : Fun K "_law_least" "_law_least" s_law_least f fd) (hm : mg "_law_least" = some (.ref f)) (len : ∀ xs st Q, sp xs st Q → xs.length = 1) (sem : ∀ xs st Q, sp xs st Q → rd_law_least sp_law_divides { nx := fun _ st' => Fg Q (.d .none) st', rt := Fg Q } (startD 4 xs) st) : Cl P w K mg base "_law_least" 2 sp :=
  ⟨f, fd, ["monomials"], hm, Fu.kp, fn_ok Fu S_law_least len (d_law_least T C_law_divides) sem, Fu.binds fun _ _ _ _ _ _ us hl => match us, hl with | [_], _ => rfl⟩
abbrev s_law_ideal : Stmt := top 37
abbrev N_law_ideal : List Str := ["m", "n", "count", "top", "some", "k", "a"]
theorem S_law_ideal : FnScope N_law_ideal ["m", "n", "count", "top"] (defScope s_law_ideal) := ⟨rfl, rfl, rfl, by decide +kernel, rfl, by decide +kernel, by decide +kernel⟩
theorem v_law_ideal_0 : visB N_law_ideal (defScope s_law_ideal) 0 "m" = true := by decide +kernel
theorem v_law_ideal_1 : visB N_law_ideal (defScope s_law_ideal) 1 "n" = true := by decide +kernel
theorem v_law_ideal_2 : visB N_law_ideal (defScope s_law_ideal) 2 "count" = true := by decide +kernel
theorem v_law_ideal_4 : visB N_law_ideal (defScope s_law_ideal) 4 "some" = true := by decide +kernel
theorem g_law_ideal_law_draw : glB (defScope s_law_ideal) "_law_draw" = true := by decide +kernel
theorem g_law_ideal_range : glB (defScope s_law_ideal) "range" = true := by decide +kernel
theorem g_law_ideal_law_least : glB (defScope s_law_ideal) "_law_least" = true := by decide +kernel
set_option maxHeartbeats 4000000 in
theorem d_law_ideal {sp_law_draw : SpD} {sp_law_monomial : SpD} {sp_law_least : SpD} (T : Tx mg) (C_law_draw : Cl P w K mg base "_law_draw" 1 sp_law_draw) (C_law_monomial : Cl P w K mg base "_law_monomial" 2 sp_law_monomial) (C_law_least : Cl P w K mg base "_law_least" 2 sp_law_least) : ∀ X, Cok P w K mg base X N_law_ideal (defScope s_law_ideal) (defScope s_law_ideal) 2 → DSs X (defBody s_law_ideal) (rd_law_ideal sp_law_draw sp_law_monomial sp_law_least) := fun X c =>
  (ds_cons (ds_setLc (i := 4) false [("k", 5)] c (by decide +kernel) (by kernel_rfl) (by decide +kernel) (by decide) (di_rng1 c g_law_ideal_range T.b_range (da_cons (de_callC c g_law_ideal_law_draw C_law_draw (by decide) (da_cons (de_var c v_law_ideal_0) (da_cons (de_bin (op_qAdd false) (de_var c v_law_ideal_2) de_int) da_nil))) da_nil)) (fun _ c1 => (dg_name c1 (by decide +kernel))) (fun _ c1 => dts_nil) (fun _ c1 => (de_callC c1 (by decide +kernel) C_law_monomial (by decide) (da_cons (de_var c1 (by decide +kernel)) (da_cons (de_var c1 (by decide +kernel)) (da_cons (de_var c1 (by decide +kernel)) da_nil))))))
  (ds_one (ds_ret (de_tup (da_cons (de_var c v_law_ideal_1) (da_cons (de_callC c g_law_ideal_law_least C_law_least (by decide) (da_cons (de_lc false [("a", 6)] c (by decide +kernel) (by decide) (di_seq (de_var c v_law_ideal_4)) (fun _ c1 => (dg_name c1 (by decide +kernel))) (fun _ c1 => (dts_one (dt_cp op_qGt rfl (de_cb c1 (by decide +kernel) T.b_sum bb_sum (c_sum c1.calm) (da_cons (de_var c1 (by decide +kernel)) da_nil)) de_int))) (fun _ c1 => (de_var c1 (by decide +kernel)))) da_nil)) da_nil))))))
theorem o_law_ideal {sp_law_draw : SpD} {sp_law_monomial : SpD} {sp_law_least : SpD} (T : Tx mg) (C_law_draw : Cl P w K mg base "_law_draw" 1 sp_law_draw) (C_law_monomial : Cl P w K mg base "_law_monomial" 2 sp_law_monomial) (C_law_least : Cl P w K mg base "_law_least" 2 sp_law_least) {f : Addr} {fd : FuncData} {sp : SpD} (Fu : Fun K "_law_ideal" "_law_ideal" s_law_ideal f fd) (hm : mg "_law_ideal" = some (.ref f)) (len : ∀ xs st Q, sp xs st Q → xs.length = 4) (sem : ∀ xs st Q, sp xs st Q → rd_law_ideal sp_law_draw sp_law_monomial sp_law_least { nx := fun _ st' => Fg Q (.d .none) st', rt := Fg Q } (startD 7 xs) st) : Cl P w K mg base "_law_ideal" 3 sp :=
  ⟨f, fd, ["m", "n", "count", "top"], hm, Fu.kp, fn_ok Fu S_law_ideal len (d_law_ideal T C_law_draw C_law_monomial C_law_least) sem, Fu.binds fun _ _ _ _ _ _ us hl => match us, hl with | [_, _, _, _], _ => rfl⟩
abbrev s_law_squarefree : Stmt := top 38
abbrev N_law_squarefree : List Str := ["m", "n", "count"]
theorem S_law_squarefree : FnScope N_law_squarefree ["m", "n", "count"] (defScope s_law_squarefree) := ⟨rfl, rfl, rfl, by decide +kernel, rfl, by decide +kernel, by decide +kernel⟩
theorem v_law_squarefree_0 : visB N_law_squarefree (defScope s_law_squarefree) 0 "m" = true := by decide +kernel
theorem v_law_squarefree_1 : visB N_law_squarefree (defScope s_law_squarefree) 1 "n" = true := by decide +kernel
theorem v_law_squarefree_2 : visB N_law_squarefree (defScope s_law_squarefree) 2 "count" = true := by decide +kernel
theorem g_law_squarefree_law_ideal : glB (defScope s_law_squarefree) "_law_ideal" = true := by decide +kernel
set_option maxHeartbeats 4000000 in
theorem d_law_squarefree {sp_law_ideal : SpD} (T : Tx mg) (C_law_ideal : Cl P w K mg base "_law_ideal" 3 sp_law_ideal) : ∀ X, Cok P w K mg base X N_law_squarefree (defScope s_law_squarefree) (defScope s_law_squarefree) 3 → DSs X (defBody s_law_squarefree) (rd_law_squarefree sp_law_ideal) := fun X c =>
  (ds_one (ds_ret (de_callC c g_law_squarefree_law_ideal C_law_ideal (by decide) (da_cons (de_var c v_law_squarefree_0) (da_cons (de_var c v_law_squarefree_1) (da_cons (de_var c v_law_squarefree_2) (da_cons de_int da_nil)))))))
theorem o_law_squarefree {sp_law_ideal : SpD} (T : Tx mg) (C_law_ideal : Cl P w K mg base "_law_ideal" 3 sp_law_ideal) {f : Addr} {fd : FuncData} {sp : SpD} (Fu : Fun K "_law_squarefree" "_law_squarefree" s_law_squarefree f fd) (hm : mg "_law_squarefree" = some (.ref f)) (len : ∀ xs st Q, sp xs st Q → xs.length = 3) (sem : ∀ xs st Q, sp xs st Q → rd_law_squarefree sp_law_ideal { nx := fun _ st' => Fg Q (.d .none) st', rt := Fg Q } (startD 3 xs) st) : Cl P w K mg base "_law_squarefree" 4 sp :=
  ⟨f, fd, ["m", "n", "count"], hm, Fu.kp, fn_ok Fu S_law_squarefree len (d_law_squarefree T C_law_ideal) sem, Fu.binds fun _ _ _ _ _ _ us hl => match us, hl with | [_, _, _], _ => rfl⟩
abbrev s_law_subsets : Stmt := top 39
abbrev N_law_subsets : List Str := ["some", "found", "one", "a"]
theorem S_law_subsets : FnScope N_law_subsets ["some"] (defScope s_law_subsets) := ⟨rfl, rfl, rfl, by decide +kernel, rfl, by decide +kernel, by decide +kernel⟩
theorem v_law_subsets_0 : visB N_law_subsets (defScope s_law_subsets) 0 "some" = true := by decide +kernel
theorem v_law_subsets_1 : visB N_law_subsets (defScope s_law_subsets) 1 "found" = true := by decide +kernel
theorem l_law_subsets_1 : locB N_law_subsets (defScope s_law_subsets) (defScope s_law_subsets) 1 "found" = true := by decide +kernel
theorem l_law_subsets_2 : locB N_law_subsets (defScope s_law_subsets) (defScope s_law_subsets) 2 "one" = true := by decide +kernel
set_option maxHeartbeats 4000000 in
theorem d_law_subsets  (T : Tx mg)  : ∀ X, Cok P w K mg base X N_law_subsets (defScope s_law_subsets) (defScope s_law_subsets) 0 → DSs X (defBody s_law_subsets) (rd_law_subsets) := fun X c =>
  (ds_cons (ds_asg c (de_lst true (da_cons (de_tup da_nil) da_nil)) (dg_name c l_law_subsets_1) rfl rfl)
  (ds_cons (ds_for c (di_seq (de_var c v_law_subsets_0)) (dg_name c l_law_subsets_2) (ds_one (ds_expr (de_extend (de_var c v_law_subsets_1) (de_lc false [("a", 3)] c (by decide +kernel) (by decide) (di_seq (de_var c v_law_subsets_1)) (fun _ c1 => (dg_name c1 (by decide +kernel))) (fun _ c1 => dts_nil) (fun _ c1 => (de_bin (op_qAdd false) (de_var c1 (by decide +kernel)) (de_tup (da_cons (de_var c1 (by decide +kernel)) da_nil)))))))))
  (ds_one (ds_ret (de_var c v_law_subsets_1)))))
theorem o_law_subsets  (T : Tx mg)  {f : Addr} {fd : FuncData} {sp : SpD} (Fu : Fun K "_law_subsets" "_law_subsets" s_law_subsets f fd) (hm : mg "_law_subsets" = some (.ref f)) (len : ∀ xs st Q, sp xs st Q → xs.length = 1) (sem : ∀ xs st Q, sp xs st Q → rd_law_subsets { nx := fun _ st' => Fg Q (.d .none) st', rt := Fg Q } (startD 4 xs) st) : Cl P w K mg base "_law_subsets" 1 sp :=
  ⟨f, fd, ["some"], hm, Fu.kp, fn_ok Fu S_law_subsets len (d_law_subsets T ) sem, Fu.binds fun _ _ _ _ _ _ us hl => match us, hl with | [_], _ => rfl⟩
abbrev s_law_in : Stmt := top 35
abbrev N_law_in : List Str := ["generators", "b", "a"]
theorem S_law_in : FnScope N_law_in ["generators", "b"] (defScope s_law_in) := ⟨rfl, rfl, rfl, by decide +kernel, rfl, by decide +kernel, by decide +kernel⟩
theorem v_law_in_0 : visB N_law_in (defScope s_law_in) 0 "generators" = true := by decide +kernel
set_option maxHeartbeats 4000000 in
theorem d_law_in {sp_law_divides : SpD} (T : Tx mg) (C_law_divides : Cl P w K mg base "_law_divides" 1 sp_law_divides) : ∀ X, Cok P w K mg base X N_law_in (defScope s_law_in) (defScope s_law_in) 1 → DSs X (defBody s_law_in) (rd_law_in sp_law_divides) := fun X c =>
  (ds_one (ds_ret (de_cp (op_qNe c.hu64) rfl (de_lc false [("a", 2)] c (by decide +kernel) (by decide) (di_seq (de_var c v_law_in_0)) (fun _ c1 => (dg_name c1 (by decide +kernel))) (fun _ c1 => (dts_one (dt_val (de_callC c1 (by decide +kernel) C_law_divides (by decide) (da_cons (de_var c1 (by decide +kernel)) (da_cons (de_var c1 (by decide +kernel)) da_nil)))))) (fun _ c1 => (de_var c1 (by decide +kernel)))) (de_lst false da_nil))))
theorem o_law_in {sp_law_divides : SpD} (T : Tx mg) (C_law_divides : Cl P w K mg base "_law_divides" 1 sp_law_divides) {f : Addr} {fd : FuncData} {sp : SpD} (Fu : Fun K "_law_in" "_law_in" s_law_in f fd) (hm : mg "_law_in" = some (.ref f)) (len : ∀ xs st Q, sp xs st Q → xs.length = 2) (sem : ∀ xs st Q, sp xs st Q → rd_law_in sp_law_divides { nx := fun _ st' => Fg Q (.d .none) st', rt := Fg Q } (startD 3 xs) st) : Cl P w K mg base "_law_in" 2 sp :=
  ⟨f, fd, ["generators", "b"], hm, Fu.kp, fn_ok Fu S_law_in len (d_law_in T C_law_divides) sem, Fu.binds fun _ _ _ _ _ _ us hl => match us, hl with | [_, _], _ => rfl⟩
abbrev s_law_monomial_of : Stmt := top 47
abbrev N_law_monomial_of : List Str := ["v", "face", "k"]
theorem S_law_monomial_of : FnScope N_law_monomial_of ["v", "face"] (defScope s_law_monomial_of) := ⟨rfl, rfl, rfl, by decide +kernel, rfl, by decide +kernel, by decide +kernel⟩
theorem v_law_monomial_of_0 : visB N_law_monomial_of (defScope s_law_monomial_of) 0 "v" = true := by decide +kernel
theorem g_law_monomial_of_range : glB (defScope s_law_monomial_of) "range" = true := by decide +kernel
theorem g_law_monomial_of_tuple : glB (defScope s_law_monomial_of) "tuple" = true := by decide +kernel
set_option maxHeartbeats 4000000 in
theorem d_law_monomial_of  (T : Tx mg)  : ∀ X, Cok P w K mg base X N_law_monomial_of (defScope s_law_monomial_of) (defScope s_law_monomial_of) 0 → DSs X (defBody s_law_monomial_of) (rd_law_monomial_of) := fun X c =>
  (ds_one (ds_ret (de_ct c g_law_monomial_of_tuple T.b_tuple bt_tuple c_tuple (da_cons (de_lc false [("k", 2)] c (by decide +kernel) (by decide) (di_rng1 c g_law_monomial_of_range T.b_range (da_cons (de_var c v_law_monomial_of_0) da_nil)) (fun _ c1 => (dg_name c1 (by decide +kernel))) (fun _ c1 => dts_nil) (fun _ c1 => (de_if (dt_cp (op_qIn c1.hu65) rfl (de_var c1 (by decide +kernel)) (de_var c1 (by decide +kernel))) de_int de_int))) da_nil))))
theorem o_law_monomial_of  (T : Tx mg)  {f : Addr} {fd : FuncData} {sp : SpD} (Fu : Fun K "_law_monomial_of" "_law_monomial_of" s_law_monomial_of f fd) (hm : mg "_law_monomial_of" = some (.ref f)) (len : ∀ xs st Q, sp xs st Q → xs.length = 2) (sem : ∀ xs st Q, sp xs st Q → rd_law_monomial_of { nx := fun _ st' => Fg Q (.d .none) st', rt := Fg Q } (startD 3 xs) st) : Cl P w K mg base "_law_monomial_of" 1 sp :=
  ⟨f, fd, ["v", "face"], hm, Fu.kp, fn_ok Fu S_law_monomial_of len (d_law_monomial_of T ) sem, Fu.binds fun _ _ _ _ _ _ us hl => match us, hl with | [_, _], _ => rfl⟩
abbrev s_law_outside : Stmt := top 48
abbrev N_law_outside : List Str := ["ideal", "n", "generators", "every", "a"]
theorem S_law_outside : FnScope N_law_outside ["ideal"] (defScope s_law_outside) := ⟨rfl, rfl, rfl, by decide +kernel, rfl, by decide +kernel, by decide +kernel⟩
theorem v_law_outside_0 : visB N_law_outside (defScope s_law_outside) 0 "ideal" = true := by decide +kernel
theorem v_law_outside_1 : visB N_law_outside (defScope s_law_outside) 1 "n" = true := by decide +kernel
theorem l_law_outside_1 : locB N_law_outside (defScope s_law_outside) (defScope s_law_outside) 1 "n" = true := by decide +kernel
theorem l_law_outside_2 : locB N_law_outside (defScope s_law_outside) (defScope s_law_outside) 2 "generators" = true := by decide +kernel
theorem v_law_outside_3 : visB N_law_outside (defScope s_law_outside) 3 "every" = true := by decide +kernel
theorem l_law_outside_3 : locB N_law_outside (defScope s_law_outside) (defScope s_law_outside) 3 "every" = true := by decide +kernel
theorem g_law_outside_list : glB (defScope s_law_outside) "list" = true := by decide +kernel
theorem g_law_outside_range : glB (defScope s_law_outside) "range" = true := by decide +kernel
theorem g_law_outside_law_subsets : glB (defScope s_law_outside) "_law_subsets" = true := by decide +kernel
theorem g_law_outside_law_facets : glB (defScope s_law_outside) "_law_facets" = true := by decide +kernel
set_option maxHeartbeats 4000000 in
theorem d_law_outside {sp_law_subsets : SpD} {sp_law_monomial_of : SpD} {sp_law_in : SpD} {sp_law_facets : SpD} (T : Tx mg) (C_law_subsets : Cl P w K mg base "_law_subsets" 1 sp_law_subsets) (C_law_monomial_of : Cl P w K mg base "_law_monomial_of" 1 sp_law_monomial_of) (C_law_in : Cl P w K mg base "_law_in" 2 sp_law_in) (C_law_facets : Cl P w K mg base "_law_facets" 2 sp_law_facets) : ∀ X, Cok P w K mg base X N_law_outside (defScope s_law_outside) (defScope s_law_outside) 2 → DSs X (defBody s_law_outside) (rd_law_outside sp_law_subsets sp_law_monomial_of sp_law_in sp_law_facets) := fun X c =>
  (ds_cons (ds_asg c (de_var c v_law_outside_0) (dg_tup c (dgs_cons (dg_name c l_law_outside_1) (dgs_cons (dg_name c l_law_outside_2) dgs_nil))) rfl rfl)
  (ds_cons (ds_asg c (de_callC c g_law_outside_law_subsets C_law_subsets (by decide) (da_cons (de_listRg false c g_law_outside_list T.b_list g_law_outside_range T.b_range (de_var c v_law_outside_1)) da_nil)) (dg_name c l_law_outside_3) rfl rfl)
  (ds_one (ds_ret (de_callC c g_law_outside_law_facets C_law_facets (by decide) (da_cons (de_lc false [("a", 4)] c (by decide +kernel) (by decide) (di_seq (de_var c v_law_outside_3)) (fun _ c1 => (dg_name c1 (by decide +kernel))) (fun _ c1 => (dts_one (dt_not (dt_val (de_callC c1 (by decide +kernel) C_law_in (by decide) (da_cons (de_var c1 (by decide +kernel)) (da_cons (de_callC c1 (by decide +kernel) C_law_monomial_of (by decide) (da_cons (de_var c1 (by decide +kernel)) (da_cons (de_var c1 (by decide +kernel)) da_nil))) da_nil))))))) (fun _ c1 => (de_var c1 (by decide +kernel)))) da_nil))))))
theorem o_law_outside {sp_law_subsets : SpD} {sp_law_monomial_of : SpD} {sp_law_in : SpD} {sp_law_facets : SpD} (T : Tx mg) (C_law_subsets : Cl P w K mg base "_law_subsets" 1 sp_law_subsets) (C_law_monomial_of : Cl P w K mg base "_law_monomial_of" 1 sp_law_monomial_of) (C_law_in : Cl P w K mg base "_law_in" 2 sp_law_in) (C_law_facets : Cl P w K mg base "_law_facets" 2 sp_law_facets) {f : Addr} {fd : FuncData} {sp : SpD} (Fu : Fun K "_law_outside" "_law_outside" s_law_outside f fd) (hm : mg "_law_outside" = some (.ref f)) (len : ∀ xs st Q, sp xs st Q → xs.length = 1) (sem : ∀ xs st Q, sp xs st Q → rd_law_outside sp_law_subsets sp_law_monomial_of sp_law_in sp_law_facets { nx := fun _ st' => Fg Q (.d .none) st', rt := Fg Q } (startD 5 xs) st) : Cl P w K mg base "_law_outside" 3 sp :=
  ⟨f, fd, ["ideal"], hm, Fu.kp, fn_ok Fu S_law_outside len (d_law_outside T C_law_subsets C_law_monomial_of C_law_in C_law_facets) sem, Fu.binds fun _ _ _ _ _ _ us hl => match us, hl with | [_], _ => rfl⟩
abbrev s_law_refused : Stmt := top 49
abbrev N_law_refused : List Str := ["ideal", "e"]
theorem S_law_refused : FnScope N_law_refused ["ideal"] (defScope s_law_refused) := ⟨rfl, rfl, rfl, by decide +kernel, rfl, by decide +kernel, by decide +kernel⟩
theorem v_law_refused_0 : visB N_law_refused (defScope s_law_refused) 0 "ideal" = true := by decide +kernel
theorem v_law_refused_1 : visB N_law_refused (defScope s_law_refused) 1 "e" = true := by decide +kernel
theorem l_law_refused_1 : locB N_law_refused (defScope s_law_refused) (defScope s_law_refused) 1 "e" = true := by decide +kernel
theorem g_law_refused_isinstance : glB (defScope s_law_refused) "isinstance" = true := by decide +kernel
theorem g_law_refused_NotIdeal : glB (defScope s_law_refused) "NotIdeal" = true := by decide +kernel
theorem g_law_refused_TooMany : glB (defScope s_law_refused) "TooMany" = true := by decide +kernel
theorem g_law_refused_complex_of_ideal_x : glB (defScope s_law_refused) "complex_of_ideal" = true := by decide +kernel
theorem g_law_refused_NotSquarefree : glB (defScope s_law_refused) "NotSquarefree" = true := by decide +kernel
set_option maxHeartbeats 4000000 in
theorem d_law_refused {sp_complex_of_ideal_x : XWc → SpD} (T : Tx mg) (C_complex_of_ideal_x : ClX P w K mg base "complex_of_ideal" 3 sp_complex_of_ideal_x) {C_NotIdeal C_TooMany C_TooGreat C_NotSquarefree : Addr} (ER : Errs K mg ["limit", "place", "rule"] "JointError" [("NotIdeal", C_NotIdeal), ("TooMany", C_TooMany), ("TooGreat", C_TooGreat), ("NotSquarefree", C_NotSquarefree)]) : ∀ X, Cok P w K mg base X N_law_refused (defScope s_law_refused) (defScope s_law_refused) 3 → Stands X → DSs X (defBody s_law_refused) (rd_law_refused sp_complex_of_ideal_x) := fun X c hst =>
  (ds_tryR c hst g_law_refused_NotSquarefree (ER.takers1 (by simp) (ER.cls ("NotSquarefree", C_NotSquarefree) (by simp)).m) l_law_refused_1 (by decide +kernel) (fun W pn xe imp c L => (ds_one (ds_expr (de_callX c L g_law_refused_complex_of_ideal_x C_complex_of_ideal_x (by decide) (da_cons (de_var c v_law_refused_0) da_nil)))))
    (ds_one (ds_ret de_bl))
    (fun x C a d oe pn hm ho hbr hz hf => su_ret (su_and (su_not (su_isX c g_law_refused_isinstance T.b_isinstance l_law_refused_1 (by decide +kernel) v_law_refused_1 g_law_refused_NotIdeal (ER.cls ("NotIdeal", C_NotIdeal) (by simp)).m (ER.ei (by rw [of_decide_eq_true ho]; simp) hm) ER.glob hz hf (ER.kit (by rw [of_decide_eq_true ho]; simp) (by simp) hm (ER.cls ("NotIdeal", C_NotIdeal) (by simp)).m) (by simp))) (su_one (su_not (su_isX c g_law_refused_isinstance T.b_isinstance l_law_refused_1 (by decide +kernel) v_law_refused_1 g_law_refused_TooMany (ER.cls ("TooMany", C_TooMany) (by simp)).m (ER.ei (by rw [of_decide_eq_true ho]; simp) hm) ER.glob hz hf (ER.kit (by rw [of_decide_eq_true ho]; simp) (by simp) hm (ER.cls ("TooMany", C_TooMany) (by simp)).m) (by simp)))))))
theorem o_law_refused {sp_complex_of_ideal_x : XWc → SpD} (T : Tx mg) (C_complex_of_ideal_x : ClX P w K mg base "complex_of_ideal" 3 sp_complex_of_ideal_x) {C_NotIdeal C_TooMany C_TooGreat C_NotSquarefree : Addr} (ER : Errs K mg ["limit", "place", "rule"] "JointError" [("NotIdeal", C_NotIdeal), ("TooMany", C_TooMany), ("TooGreat", C_TooGreat), ("NotSquarefree", C_NotSquarefree)]) {f : Addr} {fd : FuncData} {sp : SpD} (Fu : Fun K "_law_refused" "_law_refused" s_law_refused f fd) (hm : mg "_law_refused" = some (.ref f)) (len : ∀ xs st Q, sp xs st Q → xs.length = 1) (sem : ∀ xs st Q, sp xs st Q → rd_law_refused sp_complex_of_ideal_x { nx := fun _ st' => Fg Q (.d .none) st', rt := Fg Q } (startD 2 xs) st) : Cl P w K mg base "_law_refused" 4 sp :=
  ⟨f, fd, ["ideal"], hm, Fu.kp, fn_okT Fu S_law_refused len (d_law_refused T C_complex_of_ideal_x ER) sem, Fu.binds fun _ _ _ _ _ _ us hl => match us, hl with | [_], _ => rfl⟩
abbrev s_is_integer : Stmt := top 14
abbrev N_is_integer : List Str := ["value"]
theorem S_is_integer : FnScope N_is_integer ["value"] (defScope s_is_integer) := ⟨rfl, rfl, rfl, by decide +kernel, rfl, by decide +kernel, by decide +kernel⟩
theorem v_is_integer_0 : visB N_is_integer (defScope s_is_integer) 0 "value" = true := by decide +kernel
theorem g_is_integer_isinstance : glB (defScope s_is_integer) "isinstance" = true := by decide +kernel
theorem g_is_integer_int : glB (defScope s_is_integer) "int" = true := by decide +kernel
theorem g_is_integer_bool : glB (defScope s_is_integer) "bool" = true := by decide +kernel
set_option maxHeartbeats 4000000 in
theorem d_is_integer  (T : Tx mg)  : ∀ X, Cok P w K mg base X N_is_integer (defScope s_is_integer) (defScope s_is_integer) 0 → DSs X (defBody s_is_integer) (rd_is_integer) := fun X c =>
  (ds_one (ds_ret (de_and (de_isi c g_is_integer_isinstance T.b_isinstance g_is_integer_int T.b_int bt_int (de_var c v_is_integer_0)) (de_one (de_not (de_isi c g_is_integer_isinstance T.b_isinstance g_is_integer_bool T.b_bool bt_bool (de_var c v_is_integer_0)))))))
theorem o_is_integer  (T : Tx mg)  {f : Addr} {fd : FuncData} {sp : SpD} (Fu : Fun K "is_integer" "is_integer" s_is_integer f fd) (hm : mg "is_integer" = some (.ref f)) (len : ∀ xs st Q, sp xs st Q → xs.length = 1) (sem : ∀ xs st Q, sp xs st Q → rd_is_integer { nx := fun _ st' => Fg Q (.d .none) st', rt := Fg Q } (startD 1 xs) st) : Cl P w K mg base "is_integer" 1 sp :=
  ⟨f, fd, ["value"], hm, Fu.kp, fn_ok Fu S_is_integer len (d_is_integer T ) sem, Fu.binds fun _ _ _ _ _ _ us hl => match us, hl with | [_], _ => rfl⟩
abbrev s_has_form : Stmt := top 16
abbrev N_has_form : List Str := ["value"]
theorem S_has_form : FnScope N_has_form ["value"] (defScope s_has_form) := ⟨rfl, rfl, rfl, by decide +kernel, rfl, by decide +kernel, by decide +kernel⟩
theorem v_has_form_0 : visB N_has_form (defScope s_has_form) 0 "value" = true := by decide +kernel
theorem g_has_form_isinstance : glB (defScope s_has_form) "isinstance" = true := by decide +kernel
theorem g_has_form_tuple : glB (defScope s_has_form) "tuple" = true := by decide +kernel
theorem g_has_form_len : glB (defScope s_has_form) "len" = true := by decide +kernel
theorem g_has_form_is_integer : glB (defScope s_has_form) "is_integer" = true := by decide +kernel
theorem g_has_form_MOST_VARIABLES : glB (defScope s_has_form) "MOST_VARIABLES" = true := by decide +kernel
set_option maxHeartbeats 4000000 in
theorem d_has_form {sp_is_integer : SpD} (T : Tx mg) (C_is_integer : Cl P w K mg base "is_integer" 1 sp_is_integer) : ∀ X, Cok P w K mg base X N_has_form (defScope s_has_form) (defScope s_has_form) 1 → DSs X (defBody s_has_form) (rd_has_form sp_is_integer) := fun X c =>
  (ds_cons (ds_if (DW.pt (dw_or (dt_not (dt_val (de_isi c g_has_form_isinstance T.b_isinstance g_has_form_tuple T.b_tuple bt_tuple (de_var c v_has_form_0)))) (dw_or (dt_cp (op_qNe c.hu64) rfl (de_cb c g_has_form_len T.b_len bb_len c_len (da_cons (de_var c v_has_form_0) da_nil)) de_int) (dw_or1 (dt_not (dt_val (de_isi c g_has_form_isinstance T.b_isinstance g_has_form_tuple T.b_tuple bt_tuple (de_ix (de_var c v_has_form_0) de_int (fun _ _ => rfl))))))))) (ds_one (ds_ret de_bl)) ds_nil)
  (ds_one (ds_ret (de_and (de_callC c g_has_form_is_integer C_is_integer (by decide) (da_cons (de_ix (de_var c v_has_form_0) de_int (fun _ _ => rfl)) da_nil)) (de_one (de_ch op_qLe op_qLe rfl de_int (de_ix (de_var c v_has_form_0) de_int (fun _ _ => rfl)) (de_gint c g_has_form_MOST_VARIABLES T.c_MOST_VARIABLES)))))))
theorem o_has_form {sp_is_integer : SpD} (T : Tx mg) (C_is_integer : Cl P w K mg base "is_integer" 1 sp_is_integer) {f : Addr} {fd : FuncData} {sp : SpD} (Fu : Fun K "has_form" "has_form" s_has_form f fd) (hm : mg "has_form" = some (.ref f)) (len : ∀ xs st Q, sp xs st Q → xs.length = 1) (sem : ∀ xs st Q, sp xs st Q → rd_has_form sp_is_integer { nx := fun _ st' => Fg Q (.d .none) st', rt := Fg Q } (startD 1 xs) st) : Cl P w K mg base "has_form" 2 sp :=
  ⟨f, fd, ["value"], hm, Fu.kp, fn_ok Fu S_has_form len (d_has_form T C_is_integer) sem, Fu.binds fun _ _ _ _ _ _ us hl => match us, hl with | [_], _ => rfl⟩
abbrev s_is_monomial : Stmt := top 15
abbrev N_is_monomial : List Str := ["value", "n", "exponent"]
theorem S_is_monomial : FnScope N_is_monomial ["value", "n"] (defScope s_is_monomial) := ⟨rfl, rfl, rfl, by decide +kernel, rfl, by decide +kernel, by decide +kernel⟩
theorem v_is_monomial_0 : visB N_is_monomial (defScope s_is_monomial) 0 "value" = true := by decide +kernel
theorem v_is_monomial_1 : visB N_is_monomial (defScope s_is_monomial) 1 "n" = true := by decide +kernel
theorem v_is_monomial_2 : visB N_is_monomial (defScope s_is_monomial) 2 "exponent" = true := by decide +kernel
theorem l_is_monomial_2 : locB N_is_monomial (defScope s_is_monomial) (defScope s_is_monomial) 2 "exponent" = true := by decide +kernel
theorem g_is_monomial_isinstance : glB (defScope s_is_monomial) "isinstance" = true := by decide +kernel
theorem g_is_monomial_tuple : glB (defScope s_is_monomial) "tuple" = true := by decide +kernel
theorem g_is_monomial_len : glB (defScope s_is_monomial) "len" = true := by decide +kernel
theorem g_is_monomial_is_integer : glB (defScope s_is_monomial) "is_integer" = true := by decide +kernel
theorem g_is_monomial_MOST_EXPONENT : glB (defScope s_is_monomial) "MOST_EXPONENT" = true := by decide +kernel
set_option maxHeartbeats 4000000 in
theorem d_is_monomial {sp_is_integer : SpD} (T : Tx mg) (C_is_integer : Cl P w K mg base "is_integer" 1 sp_is_integer) : ∀ X, Cok P w K mg base X N_is_monomial (defScope s_is_monomial) (defScope s_is_monomial) 1 → DSs X (defBody s_is_monomial) (rd_is_monomial sp_is_integer) := fun X c =>
  (ds_cons (ds_if (DW.pt (dw_or (dt_not (dt_val (de_isi c g_is_monomial_isinstance T.b_isinstance g_is_monomial_tuple T.b_tuple bt_tuple (de_var c v_is_monomial_0)))) (dw_or1 (dt_cp (op_qNe c.hu64) rfl (de_cb c g_is_monomial_len T.b_len bb_len c_len (da_cons (de_var c v_is_monomial_0) da_nil)) (de_var c v_is_monomial_1))))) (ds_one (ds_ret de_bl)) ds_nil)
  (ds_cons (ds_for c (di_seq (de_var c v_is_monomial_0)) (dg_name c l_is_monomial_2) (ds_one (ds_if (DW.pt (dw_or (dt_not (dt_val (de_callC c g_is_monomial_is_integer C_is_integer (by decide) (da_cons (de_var c v_is_monomial_2) da_nil)))) (dw_or1 (dt_not (dt_ch op_qLe op_qLe rfl de_int (de_var c v_is_monomial_2) (de_gint c g_is_monomial_MOST_EXPONENT T.c_MOST_EXPONENT)))))) (ds_one (ds_ret de_bl)) ds_nil)))
  (ds_one (ds_ret de_bl))))
theorem o_is_monomial {sp_is_integer : SpD} (T : Tx mg) (C_is_integer : Cl P w K mg base "is_integer" 1 sp_is_integer) {f : Addr} {fd : FuncData} {sp : SpD} (Fu : Fun K "is_monomial" "is_monomial" s_is_monomial f fd) (hm : mg "is_monomial" = some (.ref f)) (len : ∀ xs st Q, sp xs st Q → xs.length = 2) (sem : ∀ xs st Q, sp xs st Q → rd_is_monomial sp_is_integer { nx := fun _ st' => Fg Q (.d .none) st', rt := Fg Q } (startD 3 xs) st) : Cl P w K mg base "is_monomial" 2 sp :=
  ⟨f, fd, ["value", "n"], hm, Fu.kp, fn_ok Fu S_is_monomial len (d_is_monomial T C_is_integer) sem, Fu.binds fun _ _ _ _ _ _ us hl => match us, hl with | [_, _], _ => rfl⟩
abbrev s_breach : Stmt := top 17
abbrev N_breach : List Str := ["value", "n", "generators", "place", "entry", "other"]
theorem S_breach : FnScope N_breach ["value"] (defScope s_breach) := ⟨rfl, rfl, rfl, by decide +kernel, rfl, by decide +kernel, by decide +kernel⟩
theorem v_breach_0 : visB N_breach (defScope s_breach) 0 "value" = true := by decide +kernel
theorem v_breach_1 : visB N_breach (defScope s_breach) 1 "n" = true := by decide +kernel
theorem l_breach_1 : locB N_breach (defScope s_breach) (defScope s_breach) 1 "n" = true := by decide +kernel
theorem v_breach_2 : visB N_breach (defScope s_breach) 2 "generators" = true := by decide +kernel
theorem l_breach_2 : locB N_breach (defScope s_breach) (defScope s_breach) 2 "generators" = true := by decide +kernel
theorem v_breach_3 : visB N_breach (defScope s_breach) 3 "place" = true := by decide +kernel
theorem l_breach_3 : locB N_breach (defScope s_breach) (defScope s_breach) 3 "place" = true := by decide +kernel
theorem v_breach_4 : visB N_breach (defScope s_breach) 4 "entry" = true := by decide +kernel
theorem l_breach_4 : locB N_breach (defScope s_breach) (defScope s_breach) 4 "entry" = true := by decide +kernel
theorem v_breach_5 : visB N_breach (defScope s_breach) 5 "other" = true := by decide +kernel
theorem l_breach_5 : locB N_breach (defScope s_breach) (defScope s_breach) 5 "other" = true := by decide +kernel
theorem g_breach_has_form : glB (defScope s_breach) "has_form" = true := by decide +kernel
theorem g_breach_enumerate : glB (defScope s_breach) "enumerate" = true := by decide +kernel
theorem g_breach_is_monomial : glB (defScope s_breach) "is_monomial" = true := by decide +kernel
theorem g_breach_len : glB (defScope s_breach) "len" = true := by decide +kernel
theorem g_breach_range : glB (defScope s_breach) "range" = true := by decide +kernel
theorem g_breach_divides : glB (defScope s_breach) "divides" = true := by decide +kernel
theorem g_breach_MOST_GENERATORS : glB (defScope s_breach) "MOST_GENERATORS" = true := by decide +kernel
set_option maxHeartbeats 4000000 in
theorem d_breach {sp_has_form : SpD} {sp_is_monomial : SpD} {sp_divides : SpD} (T : Tx mg) (C_has_form : Cl P w K mg base "has_form" 2 sp_has_form) (C_is_monomial : Cl P w K mg base "is_monomial" 2 sp_is_monomial) (C_divides : Cl P w K mg base "divides" 1 sp_divides) : ∀ X, Cok P w K mg base X N_breach (defScope s_breach) (defScope s_breach) 2 → DSs X (defBody s_breach) (rd_breach sp_has_form sp_is_monomial sp_divides) := fun X c =>
  (ds_cons (ds_if (dt_not (dt_val (de_callC c g_breach_has_form C_has_form (by decide) (da_cons (de_var c v_breach_0) da_nil)))) (ds_one (ds_ret (de_tup (da_cons de_str (da_cons (de_neg de_int) da_nil))))) ds_nil)
  (ds_cons (ds_asg c (de_var c v_breach_0) (dg_tup c (dgs_cons (dg_name c l_breach_1) (dgs_cons (dg_name c l_breach_2) dgs_nil))) rfl rfl)
  (ds_cons (ds_for c (di_enum c g_breach_enumerate T.b_enumerate (da_cons (de_var c v_breach_2) da_nil)) (dg_tup c (dgs_cons (dg_name c l_breach_3) (dgs_cons (dg_name c l_breach_4) dgs_nil))) (ds_one (ds_if (dt_not (dt_val (de_callC c g_breach_is_monomial C_is_monomial (by decide) (da_cons (de_var c v_breach_4) (da_cons (de_var c v_breach_1) da_nil))))) (ds_one (ds_ret (de_tup (da_cons de_str (da_cons (de_var c v_breach_3) da_nil))))) ds_nil)))
  (ds_cons (ds_for c (di_rng2 c g_breach_range T.b_range (da_cons de_int (da_cons (de_cb c g_breach_len T.b_len bb_len c_len (da_cons (de_var c v_breach_2) da_nil)) da_nil))) (dg_name c l_breach_3) (ds_one (ds_if (dt_not (dt_cp (op_qLt c.hu0) rfl (de_ix (de_var c v_breach_2) (de_bin op_qSub (de_var c v_breach_3) de_int) (fun _ _ => rfl)) (de_ix (de_var c v_breach_2) (de_var c v_breach_3) (fun _ _ => rfl)))) (ds_one (ds_ret (de_tup (da_cons de_str (da_cons (de_var c v_breach_3) da_nil))))) ds_nil)))
  (ds_cons (ds_for c (di_enum c g_breach_enumerate T.b_enumerate (da_cons (de_var c v_breach_2) da_nil)) (dg_tup c (dgs_cons (dg_name c l_breach_3) (dgs_cons (dg_name c l_breach_4) dgs_nil))) (ds_one (ds_for c (di_seq (de_sl false (de_var c v_breach_2) do_none (do_some (de_var c v_breach_3)))) (dg_name c l_breach_5) (ds_one (ds_if (dt_val (de_callC c g_breach_divides C_divides (by decide) (da_cons (de_var c v_breach_5) (da_cons (de_var c v_breach_4) da_nil)))) (ds_one (ds_ret (de_tup (da_cons de_str (da_cons (de_var c v_breach_3) da_nil))))) ds_nil)))))
  (ds_cons (ds_if (dt_cp op_qGt rfl (de_cb c g_breach_len T.b_len bb_len c_len (da_cons (de_var c v_breach_2) da_nil)) (de_gint c g_breach_MOST_GENERATORS T.c_MOST_GENERATORS)) (ds_one (ds_ret (de_tup (da_cons de_str (da_cons (de_gint c g_breach_MOST_GENERATORS T.c_MOST_GENERATORS) da_nil))))) ds_nil)
  (ds_one (ds_ret de_non))))))))
theorem o_breach {sp_has_form : SpD} {sp_is_monomial : SpD} {sp_divides : SpD} (T : Tx mg) (C_has_form : Cl P w K mg base "has_form" 2 sp_has_form) (C_is_monomial : Cl P w K mg base "is_monomial" 2 sp_is_monomial) (C_divides : Cl P w K mg base "divides" 1 sp_divides) {f : Addr} {fd : FuncData} {sp : SpD} (Fu : Fun K "breach" "breach" s_breach f fd) (hm : mg "breach" = some (.ref f)) (len : ∀ xs st Q, sp xs st Q → xs.length = 1) (sem : ∀ xs st Q, sp xs st Q → rd_breach sp_has_form sp_is_monomial sp_divides { nx := fun _ st' => Fg Q (.d .none) st', rt := Fg Q } (startD 6 xs) st) : Cl P w K mg base "breach" 3 sp :=
  ⟨f, fd, ["value"], hm, Fu.kp, fn_ok Fu S_breach len (d_breach T C_has_form C_is_monomial C_divides) sem, Fu.binds fun _ _ _ _ _ _ us hl => match us, hl with | [_], _ => rfl⟩
abbrev s_check_ideal : Stmt := top 18
abbrev N_check_ideal : List Str := ["value", "found"]
theorem S_check_ideal : FnScope N_check_ideal ["value"] (defScope s_check_ideal) := ⟨rfl, rfl, rfl, by decide +kernel, rfl, by decide +kernel, by decide +kernel⟩
theorem v_check_ideal_0 : visB N_check_ideal (defScope s_check_ideal) 0 "value" = true := by decide +kernel
theorem v_check_ideal_1 : visB N_check_ideal (defScope s_check_ideal) 1 "found" = true := by decide +kernel
theorem l_check_ideal_1 : locB N_check_ideal (defScope s_check_ideal) (defScope s_check_ideal) 1 "found" = true := by decide +kernel
theorem g_check_ideal_breach : glB (defScope s_check_ideal) "breach" = true := by decide +kernel
set_option maxHeartbeats 4000000 in
theorem d_check_ideal {sp_breach : SpD} (T : Tx mg) (C_breach : Cl P w K mg base "breach" 3 sp_breach) : ∀ X, Cok P w K mg base X N_check_ideal (defScope s_check_ideal) (defScope s_check_ideal) 3 → DSs X (defBody s_check_ideal) (rd_check_ideal sp_breach) := fun X c =>
  (ds_cons (ds_asg c (de_callC c g_check_ideal_breach C_breach (by decide) (da_cons (de_var c v_check_ideal_0) da_nil)) (dg_name c l_check_ideal_1) rfl rfl)
  (ds_cons (ds_if (dt_cp op_qNotN rfl (de_var c v_check_ideal_1) de_non) (ds_one ds_never) ds_nil)
  (ds_one (ds_ret (de_var c v_check_ideal_0)))))
theorem o_check_ideal {sp_breach : SpD} (T : Tx mg) (C_breach : Cl P w K mg base "breach" 3 sp_breach) {f : Addr} {fd : FuncData} {sp : SpD} (Fu : Fun K "check_ideal" "check_ideal" s_check_ideal f fd) (hm : mg "check_ideal" = some (.ref f)) (len : ∀ xs st Q, sp xs st Q → xs.length = 1) (sem : ∀ xs st Q, sp xs st Q → rd_check_ideal sp_breach { nx := fun _ st' => Fg Q (.d .none) st', rt := Fg Q } (startD 2 xs) st) : Cl P w K mg base "check_ideal" 4 sp :=
  ⟨f, fd, ["value"], hm, Fu.kp, fn_ok Fu S_check_ideal len (d_check_ideal T C_breach) sem, Fu.binds fun _ _ _ _ _ _ us hl => match us, hl with | [_], _ => rfl⟩
abbrev s_law_faces : Stmt := top 42
abbrev N_law_faces : List Str := ["facets", "found", "facet"]
theorem S_law_faces : FnScope N_law_faces ["facets"] (defScope s_law_faces) := ⟨rfl, rfl, rfl, by decide +kernel, rfl, by decide +kernel, by decide +kernel⟩
theorem v_law_faces_0 : visB N_law_faces (defScope s_law_faces) 0 "facets" = true := by decide +kernel
theorem v_law_faces_1 : visB N_law_faces (defScope s_law_faces) 1 "found" = true := by decide +kernel
theorem l_law_faces_1 : locB N_law_faces (defScope s_law_faces) (defScope s_law_faces) 1 "found" = true := by decide +kernel
theorem v_law_faces_2 : visB N_law_faces (defScope s_law_faces) 2 "facet" = true := by decide +kernel
theorem l_law_faces_2 : locB N_law_faces (defScope s_law_faces) (defScope s_law_faces) 2 "facet" = true := by decide +kernel
theorem g_law_faces_list : glB (defScope s_law_faces) "list" = true := by decide +kernel
theorem g_law_faces_law_subsets : glB (defScope s_law_faces) "_law_subsets" = true := by decide +kernel
theorem g_law_faces_sorted : glB (defScope s_law_faces) "sorted" = true := by decide +kernel
theorem g_law_faces_set : glB (defScope s_law_faces) "set" = true := by decide +kernel
set_option maxHeartbeats 4000000 in
theorem d_law_faces {sp_law_subsets : SpD} (T : Tx mg) (C_law_subsets : Cl P w K mg base "_law_subsets" 1 sp_law_subsets) : ∀ X, Cok P w K mg base X N_law_faces (defScope s_law_faces) (defScope s_law_faces) 1 → DSs X (defBody s_law_faces) (rd_law_faces sp_law_subsets) := fun X c =>
  (ds_cons (ds_asg c (de_lst false da_nil) (dg_name c l_law_faces_1) rfl rfl)
  (ds_cons (ds_for c (di_seq (de_var c v_law_faces_0)) (dg_name c l_law_faces_2) (ds_one (ds_asg c (BS.de_sortB false c g_law_faces_sorted T.b_sorted g_law_faces_set T.b_set (de_bin (op_qAdd false) (de_var c v_law_faces_1) (de_callC c g_law_faces_law_subsets C_law_subsets (by decide) (da_cons (de_ct c g_law_faces_list T.b_list bt_list (c_list false) (da_cons (de_var c v_law_faces_2) da_nil)) da_nil)))) (dg_name c l_law_faces_1) rfl rfl)))
  (ds_one (ds_ret (de_var c v_law_faces_1)))))
theorem o_law_faces {sp_law_subsets : SpD} (T : Tx mg) (C_law_subsets : Cl P w K mg base "_law_subsets" 1 sp_law_subsets) {f : Addr} {fd : FuncData} {sp : SpD} (Fu : Fun K "_law_faces" "_law_faces" s_law_faces f fd) (hm : mg "_law_faces" = some (.ref f)) (len : ∀ xs st Q, sp xs st Q → xs.length = 1) (sem : ∀ xs st Q, sp xs st Q → rd_law_faces sp_law_subsets { nx := fun _ st' => Fg Q (.d .none) st', rt := Fg Q } (startD 3 xs) st) : Cl P w K mg base "_law_faces" 2 sp :=
  ⟨f, fd, ["facets"], hm, Fu.kp, fn_ok Fu S_law_faces len (d_law_faces T C_law_subsets) sem, Fu.binds fun _ _ _ _ _ _ us hl => match us, hl with | [_], _ => rfl⟩
abbrev s_law_lacking : Stmt := top 45
abbrev N_law_lacking : List Str := ["v", "facets", "faces", "some", "a", "b"]
theorem S_law_lacking : FnScope N_law_lacking ["v", "facets"] (defScope s_law_lacking) := ⟨rfl, rfl, rfl, by decide +kernel, rfl, by decide +kernel, by decide +kernel⟩
theorem v_law_lacking_0 : visB N_law_lacking (defScope s_law_lacking) 0 "v" = true := by decide +kernel
theorem v_law_lacking_1 : visB N_law_lacking (defScope s_law_lacking) 1 "facets" = true := by decide +kernel
theorem l_law_lacking_2 : locB N_law_lacking (defScope s_law_lacking) (defScope s_law_lacking) 2 "faces" = true := by decide +kernel
theorem v_law_lacking_3 : visB N_law_lacking (defScope s_law_lacking) 3 "some" = true := by decide +kernel
theorem l_law_lacking_3 : locB N_law_lacking (defScope s_law_lacking) (defScope s_law_lacking) 3 "some" = true := by decide +kernel
theorem g_law_lacking_law_faces : glB (defScope s_law_lacking) "_law_faces" = true := by decide +kernel
theorem g_law_lacking_list : glB (defScope s_law_lacking) "list" = true := by decide +kernel
theorem g_law_lacking_range : glB (defScope s_law_lacking) "range" = true := by decide +kernel
theorem g_law_lacking_law_subsets : glB (defScope s_law_lacking) "_law_subsets" = true := by decide +kernel
theorem g_law_lacking_sorted : glB (defScope s_law_lacking) "sorted" = true := by decide +kernel
set_option maxHeartbeats 4000000 in
theorem d_law_lacking {sp_law_faces : SpD} {sp_law_subsets : SpD} {sp_law_inside : SpD} (T : Tx mg) (C_law_faces : Cl P w K mg base "_law_faces" 2 sp_law_faces) (C_law_subsets : Cl P w K mg base "_law_subsets" 1 sp_law_subsets) (C_law_inside : Cl P w K mg base "_law_inside" 1 sp_law_inside) : ∀ X, Cok P w K mg base X N_law_lacking (defScope s_law_lacking) (defScope s_law_lacking) 2 → DSs X (defBody s_law_lacking) (rd_law_lacking sp_law_faces sp_law_subsets sp_law_inside) := fun X c =>
  (ds_cons (ds_asg c (de_callC c g_law_lacking_law_faces C_law_faces (by decide) (da_cons (de_var c v_law_lacking_1) da_nil)) (dg_name c l_law_lacking_2) rfl rfl)
  (ds_cons (ds_asg c (de_lc false [("a", 4)] c (by decide +kernel) (by decide) (di_seq (de_callC c g_law_lacking_law_subsets C_law_subsets (by decide) (da_cons (de_listRg false c g_law_lacking_list T.b_list g_law_lacking_range T.b_range (de_var c v_law_lacking_0)) da_nil))) (fun _ c1 => (dg_name c1 (by decide +kernel))) (fun _ c1 => (dts_one (dt_cp (op_qNotIn c1.hu65) rfl (de_var c1 (by decide +kernel)) (de_var c1 (by decide +kernel))))) (fun _ c1 => (de_var c1 (by decide +kernel)))) (dg_name c l_law_lacking_3) (by kernel_rfl) rfl)
  (ds_one (ds_ret (de_sortD false c g_law_lacking_sorted T.b_sorted (de_lc false [("a", 4)] c (by decide +kernel) (by decide) (di_seq (de_var c v_law_lacking_3)) (fun _ c1 => (dg_name c1 (by decide +kernel))) (fun _ c1 => (dts_one (dt_cp (op_qEq c1.hu64) rfl (de_lc false [("b", 5)] c1 (by decide +kernel) (by decide) (di_seq (de_var c1 (by decide +kernel))) (fun _ c2 => (dg_name c2 (by decide +kernel))) (fun _ c2 => (dts_one (DW.pt (dw_and (dt_cp (op_qNe c2.hu64) rfl (de_var c2 (by decide +kernel)) (de_var c2 (by decide +kernel))) (dw_and1 (dt_val (de_callC c2 (by decide +kernel) C_law_inside (by decide) (da_cons (de_var c2 (by decide +kernel)) (da_cons (de_var c2 (by decide +kernel)) da_nil))))))))) (fun _ c2 => (de_var c2 (by decide +kernel)))) (de_lst false da_nil)))) (fun _ c1 => (de_var c1 (by decide +kernel)))))))))
theorem o_law_lacking {sp_law_faces : SpD} {sp_law_subsets : SpD} {sp_law_inside : SpD} (T : Tx mg) (C_law_faces : Cl P w K mg base "_law_faces" 2 sp_law_faces) (C_law_subsets : Cl P w K mg base "_law_subsets" 1 sp_law_subsets) (C_law_inside : Cl P w K mg base "_law_inside" 1 sp_law_inside) {f : Addr} {fd : FuncData} {sp : SpD} (Fu : Fun K "_law_lacking" "_law_lacking" s_law_lacking f fd) (hm : mg "_law_lacking" = some (.ref f)) (len : ∀ xs st Q, sp xs st Q → xs.length = 2) (sem : ∀ xs st Q, sp xs st Q → rd_law_lacking sp_law_faces sp_law_subsets sp_law_inside { nx := fun _ st' => Fg Q (.d .none) st', rt := Fg Q } (startD 6 xs) st) : Cl P w K mg base "_law_lacking" 3 sp :=
  ⟨f, fd, ["v", "facets"], hm, Fu.kp, fn_ok Fu S_law_lacking len (d_law_lacking T C_law_faces C_law_subsets C_law_inside) sem, Fu.binds fun _ _ _ _ _ _ us hl => match us, hl with | [_, _], _ => rfl⟩
abbrev s_law_right : Stmt := top 50
abbrev N_law_right : List Str := ["m", "v", "facets", "due", "ideal", "outside", "spot", "some", "one", "a"]
theorem S_law_right : FnScope N_law_right ["m"] (defScope s_law_right) := ⟨rfl, rfl, rfl, by decide +kernel, rfl, by decide +kernel, by decide +kernel⟩
theorem v_law_right_0 : visB N_law_right (defScope s_law_right) 0 "m" = true := by decide +kernel
theorem v_law_right_1 : visB N_law_right (defScope s_law_right) 1 "v" = true := by decide +kernel
theorem l_law_right_1 : locB N_law_right (defScope s_law_right) (defScope s_law_right) 1 "v" = true := by decide +kernel
theorem v_law_right_2 : visB N_law_right (defScope s_law_right) 2 "facets" = true := by decide +kernel
theorem l_law_right_2 : locB N_law_right (defScope s_law_right) (defScope s_law_right) 2 "facets" = true := by decide +kernel
theorem v_law_right_3 : visB N_law_right (defScope s_law_right) 3 "due" = true := by decide +kernel
theorem l_law_right_3 : locB N_law_right (defScope s_law_right) (defScope s_law_right) 3 "due" = true := by decide +kernel
theorem v_law_right_4 : visB N_law_right (defScope s_law_right) 4 "ideal" = true := by decide +kernel
theorem l_law_right_4 : locB N_law_right (defScope s_law_right) (defScope s_law_right) 4 "ideal" = true := by decide +kernel
theorem v_law_right_5 : visB N_law_right (defScope s_law_right) 5 "outside" = true := by decide +kernel
theorem l_law_right_5 : locB N_law_right (defScope s_law_right) (defScope s_law_right) 5 "outside" = true := by decide +kernel
theorem v_law_right_6 : visB N_law_right (defScope s_law_right) 6 "spot" = true := by decide +kernel
theorem l_law_right_6 : locB N_law_right (defScope s_law_right) (defScope s_law_right) 6 "spot" = true := by decide +kernel
theorem v_law_right_7 : visB N_law_right (defScope s_law_right) 7 "some" = true := by decide +kernel
theorem l_law_right_7 : locB N_law_right (defScope s_law_right) (defScope s_law_right) 7 "some" = true := by decide +kernel
theorem g_law_right_law_draw : glB (defScope s_law_right) "_law_draw" = true := by decide +kernel
theorem g_law_right_law_complex : glB (defScope s_law_right) "_law_complex" = true := by decide +kernel
theorem g_law_right_law_lacking : glB (defScope s_law_right) "_law_lacking" = true := by decide +kernel
theorem g_law_right_sorted : glB (defScope s_law_right) "sorted" = true := by decide +kernel
theorem g_law_right_tuple : glB (defScope s_law_right) "tuple" = true := by decide +kernel
theorem g_law_right_ideal_of_complex_x : glB (defScope s_law_right) "ideal_of_complex" = true := by decide +kernel
theorem g_law_right_repr : glB (defScope s_law_right) "repr" = true := by decide +kernel
theorem g_law_right_check_ideal : glB (defScope s_law_right) "check_ideal" = true := by decide +kernel
theorem g_law_right_complex_of_ideal_x : glB (defScope s_law_right) "complex_of_ideal" = true := by decide +kernel
theorem g_law_right_law_squarefree : glB (defScope s_law_right) "_law_squarefree" = true := by decide +kernel
theorem g_law_right_law_outside : glB (defScope s_law_right) "_law_outside" = true := by decide +kernel
theorem g_law_right_len : glB (defScope s_law_right) "len" = true := by decide +kernel
theorem g_law_right_list : glB (defScope s_law_right) "list" = true := by decide +kernel
theorem g_law_right_law_least : glB (defScope s_law_right) "_law_least" = true := by decide +kernel
theorem g_law_right_law_refused : glB (defScope s_law_right) "_law_refused" = true := by decide +kernel
set_option maxHeartbeats 4000000 in
theorem d_law_right {sp_law_draw : SpD} {sp_law_complex : SpD} {sp_law_lacking : SpD} {sp_law_monomial_of : SpD} {sp_ideal_of_complex_x : XWc → SpD} {sp_check_ideal : SpD} {sp_complex_of_ideal_x : XWc → SpD} {sp_law_squarefree : SpD} {sp_law_outside : SpD} {sp_law_least : SpD} {sp_law_refused : SpD} (T : Tx mg) (C_law_draw : Cl P w K mg base "_law_draw" 1 sp_law_draw) (C_law_complex : Cl P w K mg base "_law_complex" 3 sp_law_complex) (C_law_lacking : Cl P w K mg base "_law_lacking" 3 sp_law_lacking) (C_law_monomial_of : Cl P w K mg base "_law_monomial_of" 1 sp_law_monomial_of) (C_ideal_of_complex_x : ClX P w K mg base "ideal_of_complex" 4 sp_ideal_of_complex_x) (C_check_ideal : Cl P w K mg base "check_ideal" 4 sp_check_ideal) (C_complex_of_ideal_x : ClX P w K mg base "complex_of_ideal" 3 sp_complex_of_ideal_x) (C_law_squarefree : Cl P w K mg base "_law_squarefree" 4 sp_law_squarefree) (C_law_outside : Cl P w K mg base "_law_outside" 3 sp_law_outside) (C_law_least : Cl P w K mg base "_law_least" 2 sp_law_least) (C_law_refused : Cl P w K mg base "_law_refused" 4 sp_law_refused) : ∀ X, Cok P w K mg base X N_law_right (defScope s_law_right) (defScope s_law_right) 4 → X.A.guards = some [] → DSs X (defBody s_law_right) (rd_law_right sp_law_draw sp_law_complex sp_law_lacking sp_law_monomial_of (sp_ideal_of_complex_x noX) sp_check_ideal (sp_complex_of_ideal_x noX) sp_law_squarefree sp_law_outside sp_law_least sp_law_refused) := fun X c hg =>
  (ds_cons (ds_asg c (de_bin (op_qAdd false) de_int (de_callC c g_law_right_law_draw C_law_draw (by decide) (da_cons (de_var c v_law_right_0) (da_cons de_int da_nil)))) (dg_name c l_law_right_1) rfl rfl)
  (ds_cons (ds_asg c (de_callC c g_law_right_law_complex C_law_complex (by decide) (da_cons (de_var c v_law_right_0) (da_cons (de_var c v_law_right_1) da_nil))) (dg_name c l_law_right_2) rfl rfl)
  (ds_cons (ds_asg c (de_tup (da_cons (de_var c v_law_right_1) (da_cons (de_ct c g_law_right_tuple T.b_tuple bt_tuple c_tuple (da_cons (de_sortD false c g_law_right_sorted T.b_sorted (de_lc false [("a", 9)] c (by decide +kernel) (by decide) (di_seq (de_callC c g_law_right_law_lacking C_law_lacking (by decide) (da_cons (de_var c v_law_right_1) (da_cons (de_var c v_law_right_2) da_nil)))) (fun _ c1 => (dg_name c1 (by decide +kernel))) (fun _ c1 => dts_nil) (fun _ c1 => (de_callC c1 (by decide +kernel) C_law_monomial_of (by decide) (da_cons (de_var c1 (by decide +kernel)) (da_cons (de_var c1 (by decide +kernel)) da_nil)))))) da_nil)) da_nil))) (dg_name c l_law_right_3) rfl rfl)
  (ds_cons (ds_if (DW.pt (dw_or (dt_cp op_qNeS rfl (de_cb c g_law_right_repr T.b_repr bb_repr (c_repr hg c.hu64) (da_cons (de_callN c g_law_right_ideal_of_complex_x C_ideal_of_complex_x (by decide) (da_cons (de_var c v_law_right_1) (da_cons (de_var c v_law_right_2) da_nil))) da_nil)) (de_cb c g_law_right_repr T.b_repr bb_repr (c_repr hg c.hu64) (da_cons (de_var c v_law_right_3) da_nil))) (dw_or1 (dt_cp op_qNeS rfl (de_cb c g_law_right_repr T.b_repr bb_repr (c_repr hg c.hu64) (da_cons (de_callC c g_law_right_check_ideal C_check_ideal (by decide) (da_cons (de_var c v_law_right_3) da_nil)) da_nil)) (de_cb c g_law_right_repr T.b_repr bb_repr (c_repr hg c.hu64) (da_cons (de_var c v_law_right_3) da_nil)))))) (ds_one (ds_ret de_bl)) ds_nil)
  (ds_cons (ds_if (dt_cp op_qNeS rfl (de_cb c g_law_right_repr T.b_repr bb_repr (c_repr hg c.hu64) (da_cons (de_callN c g_law_right_complex_of_ideal_x C_complex_of_ideal_x (by decide) (da_cons (de_var c v_law_right_3) da_nil)) da_nil)) (de_cb c g_law_right_repr T.b_repr bb_repr (c_repr hg c.hu64) (da_cons (de_var c v_law_right_2) da_nil))) (ds_one (ds_ret de_bl)) ds_nil)
  (ds_cons (ds_asg c (de_callC c g_law_right_law_squarefree C_law_squarefree (by decide) (da_cons (de_var c v_law_right_0) (da_cons (de_bin (op_qAdd false) de_int (de_callC c g_law_right_law_draw C_law_draw (by decide) (da_cons (de_var c v_law_right_0) (da_cons de_int da_nil)))) (da_cons de_int da_nil)))) (dg_name c l_law_right_4) rfl rfl)
  (ds_cons (ds_asg c (de_callC c g_law_right_law_outside C_law_outside (by decide) (da_cons (de_var c v_law_right_4) da_nil)) (dg_name c l_law_right_5) rfl rfl)
  (ds_cons (ds_if (DW.pt (dw_or (dt_cp op_qNeS rfl (de_cb c g_law_right_repr T.b_repr bb_repr (c_repr hg c.hu64) (da_cons (de_callN c g_law_right_complex_of_ideal_x C_complex_of_ideal_x (by decide) (da_cons (de_var c v_law_right_4) da_nil)) da_nil)) (de_cb c g_law_right_repr T.b_repr bb_repr (c_repr hg c.hu64) (da_cons (de_var c v_law_right_5) da_nil))) (dw_or1 (dt_cp op_qNeS rfl (de_cb c g_law_right_repr T.b_repr bb_repr (c_repr hg c.hu64) (da_cons (de_callN c g_law_right_ideal_of_complex_x C_ideal_of_complex_x (by decide) (da_cons (de_ix (de_var c v_law_right_4) de_int (fun _ _ => rfl)) (da_cons (de_var c v_law_right_5) da_nil))) da_nil)) (de_cb c g_law_right_repr T.b_repr bb_repr (c_repr hg c.hu64) (da_cons (de_var c v_law_right_4) da_nil)))))) (ds_one (ds_ret de_bl)) ds_nil)
  (ds_cons (ds_if (dt_cp (op_qNe c.hu64) rfl (de_ix (de_var c v_law_right_4) de_int (fun _ _ => rfl)) (de_tup da_nil)) (ds_cons (ds_asg c (de_callC c g_law_right_law_draw C_law_draw (by decide) (da_cons (de_var c v_law_right_0) (da_cons (de_cb c g_law_right_len T.b_len bb_len c_len (da_cons (de_ix (de_var c v_law_right_4) de_int (fun _ _ => rfl)) da_nil)) da_nil))) (dg_name c l_law_right_6) rfl rfl)
      (ds_cons (ds_asg c (de_ct c g_law_right_list T.b_list bt_list (c_list true) (da_cons (de_ix (de_var c v_law_right_4) de_int (fun _ _ => rfl)) da_nil)) (dg_name c l_law_right_7) rfl rfl)
      (ds_cons (ds_lput c (de_var c v_law_right_7) (de_var c v_law_right_6) (de_ct c g_law_right_tuple T.b_tuple bt_tuple c_tuple (da_cons (de_lc false [("one", 8)] c (by decide +kernel) (by decide) (di_seq (de_ix (de_var c v_law_right_7) (de_var c v_law_right_6) (fun _ _ => rfl))) (fun _ c1 => (dg_name c1 (by decide +kernel))) (fun _ c1 => dts_nil) (fun _ c1 => (de_bin (op_qMul false) de_int (de_var c1 (by decide +kernel))))) da_nil)) rfl)
      (ds_one (ds_if (dt_not (dt_val (de_callC c g_law_right_law_refused C_law_refused (by decide) (da_cons (de_tup (da_cons (de_ix (de_var c v_law_right_4) de_int (fun _ _ => rfl)) (da_cons (de_callC c g_law_right_law_least C_law_least (by decide) (da_cons (de_var c v_law_right_7) da_nil)) da_nil))) da_nil)))) (ds_one (ds_ret de_bl)) ds_nil))))) ds_nil)
  (ds_one (ds_ret de_bl)))))))))))
theorem o_law_right {sp_law_draw : SpD} {sp_law_complex : SpD} {sp_law_lacking : SpD} {sp_law_monomial_of : SpD} {sp_ideal_of_complex_x : XWc → SpD} {sp_check_ideal : SpD} {sp_complex_of_ideal_x : XWc → SpD} {sp_law_squarefree : SpD} {sp_law_outside : SpD} {sp_law_least : SpD} {sp_law_refused : SpD} (T : Tx mg) (C_law_draw : Cl P w K mg base "_law_draw" 1 sp_law_draw) (C_law_complex : Cl P w K mg base "_law_complex" 3 sp_law_complex) (C_law_lacking : Cl P w K mg base "_law_lacking" 3 sp_law_lacking) (C_law_monomial_of : Cl P w K mg base "_law_monomial_of" 1 sp_law_monomial_of) (C_ideal_of_complex_x : ClX P w K mg base "ideal_of_complex" 4 sp_ideal_of_complex_x) (C_check_ideal : Cl P w K mg base "check_ideal" 4 sp_check_ideal) (C_complex_of_ideal_x : ClX P w K mg base "complex_of_ideal" 3 sp_complex_of_ideal_x) (C_law_squarefree : Cl P w K mg base "_law_squarefree" 4 sp_law_squarefree) (C_law_outside : Cl P w K mg base "_law_outside" 3 sp_law_outside) (C_law_least : Cl P w K mg base "_law_least" 2 sp_law_least) (C_law_refused : Cl P w K mg base "_law_refused" 4 sp_law_refused) {f : Addr} {fd : FuncData} {sp : SpD} (Fu : Fun K "_law_right" "_law_right" s_law_right f fd) (hm : mg "_law_right" = some (.ref f)) (len : ∀ xs st Q, sp xs st Q → xs.length = 1) (sem : ∀ xs st Q, sp xs st Q → rd_law_right sp_law_draw sp_law_complex sp_law_lacking sp_law_monomial_of (sp_ideal_of_complex_x noX) sp_check_ideal (sp_complex_of_ideal_x noX) sp_law_squarefree sp_law_outside sp_law_least sp_law_refused { nx := fun _ st' => Fg Q (.d .none) st', rt := Fg Q } (startD 10 xs) st) : ClG P w K mg base "_law_right" 5 sp :=
  ⟨f, fd, ["m"], hm, Fu.kp, fnG_ok Fu S_law_right len (d_law_right T C_law_draw C_law_complex C_law_lacking C_law_monomial_of C_ideal_of_complex_x C_check_ideal C_complex_of_ideal_x C_law_squarefree C_law_outside C_law_least C_law_refused) sem, Fu.binds fun _ _ _ _ _ _ us hl => match us, hl with | [_], _ => rfl⟩
abbrev s_law_begun : Stmt := top 30
abbrev N_law_begun : List Str := ["script", "k", "cells", "great", "seed", "cell"]
theorem S_law_begun : FnScope N_law_begun ["script", "k"] (defScope s_law_begun) := ⟨rfl, rfl, rfl, by decide +kernel, rfl, by decide +kernel, by decide +kernel⟩
theorem v_law_begun_0 : visB N_law_begun (defScope s_law_begun) 0 "script" = true := by decide +kernel
theorem v_law_begun_1 : visB N_law_begun (defScope s_law_begun) 1 "k" = true := by decide +kernel
theorem v_law_begun_2 : visB N_law_begun (defScope s_law_begun) 2 "cells" = true := by decide +kernel
theorem l_law_begun_2 : locB N_law_begun (defScope s_law_begun) (defScope s_law_begun) 2 "cells" = true := by decide +kernel
theorem v_law_begun_3 : visB N_law_begun (defScope s_law_begun) 3 "great" = true := by decide +kernel
theorem v_law_begun_4 : visB N_law_begun (defScope s_law_begun) 4 "seed" = true := by decide +kernel
theorem l_law_begun_4 : locB N_law_begun (defScope s_law_begun) (defScope s_law_begun) 4 "seed" = true := by decide +kernel
theorem v_law_begun_5 : visB N_law_begun (defScope s_law_begun) 5 "cell" = true := by decide +kernel
theorem l_law_begun_5 : locB N_law_begun (defScope s_law_begun) (defScope s_law_begun) 5 "cell" = true := by decide +kernel
theorem g_law_begun_int : glB (defScope s_law_begun) "int" = true := by decide +kernel
set_option maxHeartbeats 4000000 in
theorem d_law_begun  (T : Tx mg)  : ∀ X, Cok P w K mg base X N_law_begun (defScope s_law_begun) (defScope s_law_begun) 0 → DSs X (defBody s_law_begun) (rd_law_begun) := fun X c =>
  (ds_cons (ds_asg c (de_bin (op_qAdd false) (de_sl false (de_var c v_law_begun_0) (do_some (de_var c v_law_begun_1)) do_none) (de_sl false (de_var c v_law_begun_0) do_none (do_some (de_var c v_law_begun_1)))) (dg_name c l_law_begun_2) rfl rfl)
  (ds_cons (ds_setLc (i := 3) false [("cell", 5)] c (by decide +kernel) (by kernel_rfl) (by decide +kernel) (by decide) (di_seq (de_var c v_law_begun_2)) (fun _ c1 => (dg_name c1 (by decide +kernel))) (fun _ c1 => (dts_one (dt_cp op_qGe rfl (de_var c1 (by decide +kernel)) (de_bin op_qPow de_int de_int)))) (fun _ c1 => (de_var c1 (by decide +kernel))))
  (ds_cons (ds_asg c (de_bin (op_qAdd false) de_int (de_var c v_law_begun_1)) (dg_name c l_law_begun_4) rfl rfl)
  (ds_cons (ds_for c (di_seq (de_var c v_law_begun_2)) (dg_name c l_law_begun_5) (ds_one (ds_asg c (de_bin op_qMod (de_ct c g_law_begun_int T.b_int bt_int c_int (da_cons (de_bin (op_qAdd false) (de_bin (op_qMul false) (de_var c v_law_begun_4) de_int) (de_var c v_law_begun_5)) da_nil)) de_int) (dg_name c l_law_begun_4) rfl rfl)))
  (ds_one (ds_ret (de_disp (dps_cons (de_if (dt_cp (op_qNe c.hu64) rfl (de_var c v_law_begun_3) (de_lst false da_nil)) (de_ix (de_var c v_law_begun_3) de_int (fun _ _ => rfl)) de_int) (dps_cons (de_var c v_law_begun_4) (dps_cons (de_bin (op_qAdd false) (de_var c v_law_begun_2) (de_lst false (da_cons (de_bin (op_qAdd false) (de_bin (op_qMul false) de_int (de_var c v_law_begun_1)) de_int) da_nil))) (dps_cons de_int dps_nil)))) rfl rfl (fun z => by cases z) (by decide))))))))
theorem o_law_begun  (T : Tx mg)  {f : Addr} {fd : FuncData} {sp : SpD} (Fu : Fun K "_law_begun" "_law_begun" s_law_begun f fd) (hm : mg "_law_begun" = some (.ref f)) (len : ∀ xs st Q, sp xs st Q → xs.length = 2) (sem : ∀ xs st Q, sp xs st Q → rd_law_begun { nx := fun _ st' => Fg Q (.d .none) st', rt := Fg Q } (startD 6 xs) st) : Cl P w K mg base "_law_begun" 1 sp :=
  ⟨f, fd, ["script", "k"], hm, Fu.kp, fn_ok Fu S_law_begun len (d_law_begun T ) sem, Fu.binds fun _ _ _ _ _ _ us hl => match us, hl with | [_, _], _ => rfl⟩
abbrev s_law : Stmt := top 51
abbrev N_law : List Str := ["script", "told", "turn", "k"]
theorem S_law : FnScope N_law ["script"] (defScope s_law) := ⟨rfl, rfl, rfl, by decide +kernel, rfl, by decide +kernel, by decide +kernel⟩
theorem v_law_0 : visB N_law (defScope s_law) 0 "script" = true := by decide +kernel
theorem v_law_1 : visB N_law (defScope s_law) 1 "told" = true := by decide +kernel
theorem l_law_1 : locB N_law (defScope s_law) (defScope s_law) 1 "told" = true := by decide +kernel
theorem v_law_2 : visB N_law (defScope s_law) 2 "turn" = true := by decide +kernel
theorem l_law_2 : locB N_law (defScope s_law) (defScope s_law) 2 "turn" = true := by decide +kernel
theorem g_law_ideal_of_complex_x : glB (defScope s_law) "ideal_of_complex" = true := by decide +kernel
theorem g_law_complex_of_ideal_x : glB (defScope s_law) "complex_of_ideal" = true := by decide +kernel
theorem g_law_repr : glB (defScope s_law) "repr" = true := by decide +kernel
theorem g_law_range : glB (defScope s_law) "range" = true := by decide +kernel
theorem g_law_law_limit_c : glB (defScope s_law) "_law_limit" = true := by decide +kernel
theorem g_law_len : glB (defScope s_law) "len" = true := by decide +kernel
theorem g_law_min : glB (defScope s_law) "min" = true := by decide +kernel
theorem g_law_max : glB (defScope s_law) "max" = true := by decide +kernel
theorem g_law_law_begun : glB (defScope s_law) "_law_begun" = true := by decide +kernel
theorem g_law_law_right : glB (defScope s_law) "_law_right" = true := by decide +kernel
set_option maxHeartbeats 4000000 in
theorem d_law {sp_ideal_of_complex_x : XWc → SpD} {sp_complex_of_ideal_x : XWc → SpD} {sp_law_begun : SpD} {sp_law_right : SpD} {cc Pt : Addr} (T : Tx mg) (C_ideal_of_complex_x : ClX P w K mg base "ideal_of_complex" 4 sp_ideal_of_complex_x) (C_complex_of_ideal_x : ClX P w K mg base "complex_of_ideal" 3 sp_complex_of_ideal_x) (C_law_limit_c : ClT P w K mg base "_law_limit" 2 rd_law_limit_c) (C_law_begun : Cl P w K mg base "_law_begun" 1 sp_law_begun) (C_law_right : ClG P w K mg base "_law_right" 5 sp_law_right) : ∀ X, Cok P w K mg base X N_law (defScope s_law) (defScope s_law) 6 → X.A.guards = some [] → Mk mg base X cc Pt (Lm ("law" ++ ".<locals>.")) → DSs X (defBody s_law) (rd_law sp_ideal_of_complex_x sp_complex_of_ideal_x sp_law_begun sp_law_right) := fun X c hg M =>
  (ds_cons (ds_asg c (de_lst false (da_cons (de_callN c g_law_ideal_of_complex_x C_ideal_of_complex_x (by decide) (da_cons de_int (da_cons (de_tup da_nil) da_nil))) (da_cons (de_callN c g_law_ideal_of_complex_x C_ideal_of_complex_x (by decide) (da_cons de_int (da_cons (de_tup (da_cons (de_tup da_nil) da_nil)) da_nil))) da_nil))) (dg_name c l_law_1) rfl rfl)
  (ds_cons (ds_asg c (de_bin (op_qAdd false) (de_var c v_law_1) (de_lst false (da_cons (de_callN c g_law_complex_of_ideal_x C_complex_of_ideal_x (by decide) (da_cons (de_tup (da_cons de_int (da_cons (de_tup da_nil) da_nil))) da_nil)) (da_cons (de_callN c g_law_complex_of_ideal_x C_complex_of_ideal_x (by decide) (da_cons (de_tup (da_cons de_int (da_cons (de_tup (da_cons (de_tup (da_cons de_int (da_cons de_int da_nil))) da_nil)) da_nil))) da_nil)) da_nil)))) (dg_name c l_law_1) rfl rfl)
  (ds_cons (ds_if (dt_cp op_qNeS rfl (de_cb c g_law_repr T.b_repr bb_repr (c_repr hg c.hu64) (da_cons (de_var c v_law_1) da_nil)) (de_cb c g_law_repr T.b_repr bb_repr (c_repr hg c.hu64) (da_cons (de_lst false (da_cons (de_tup (da_cons de_int (da_cons (de_tup (da_cons (de_tup (da_cons de_int (da_cons de_int da_nil))) da_nil)) da_nil))) (da_cons (de_tup (da_cons de_int (da_cons (de_tup (da_cons (de_tup (da_cons de_int (da_cons de_int da_nil))) (da_cons (de_tup (da_cons de_int (da_cons de_int da_nil))) da_nil))) da_nil))) (da_cons (de_tup (da_cons (de_tup (da_cons de_int (da_cons de_int da_nil))) da_nil)) (da_cons (de_tup da_nil) da_nil))))) da_nil))) (ds_one (ds_ret de_bl)) ds_nil)
  (ds_cons (ds_if (dt_cp op_qNotN rfl (de_lamC c M g_law_law_limit_c C_law_limit_c 4 (by decide) (by decide +kernel) (fun _ => rfl) (fun _ _ _ _ _ => rfl) (fun W X cL L => (de_callX cL L (by decide +kernel) C_ideal_of_complex_x (by decide) (da_cons de_int (da_cons (de_ct cL (by decide +kernel) T.b_tuple bt_tuple c_tuple (da_cons (de_lc false [("k", 3)] cL (by decide +kernel) (by decide) (di_rng1 cL (by decide +kernel) T.b_range (da_cons de_int da_nil)) (fun _ c1 => (dg_name c1 (by decide +kernel))) (fun _ c1 => dts_nil) (fun _ c1 => (de_tup (da_cons (de_var c1 (by decide +kernel)) da_nil)))) da_nil)) da_nil))))) de_non) (ds_one (ds_ret de_bl)) ds_nil)
  (ds_cons (ds_if (dt_cp (op_qNe c.hu64) rfl (de_lamC c M g_law_law_limit_c C_law_limit_c 4 (by decide) (by decide +kernel) (fun _ => rfl) (fun _ _ _ _ _ => rfl) (fun W X cL L => (de_callX cL L (by decide +kernel) C_ideal_of_complex_x (by decide) (da_cons de_int (da_cons (de_ct cL (by decide +kernel) T.b_tuple bt_tuple c_tuple (da_cons (de_lc false [("k", 3)] cL (by decide +kernel) (by decide) (di_rng1 cL (by decide +kernel) T.b_range (da_cons de_int da_nil)) (fun _ c1 => (dg_name c1 (by decide +kernel))) (fun _ c1 => dts_nil) (fun _ c1 => (de_tup (da_cons (de_var c1 (by decide +kernel)) da_nil)))) da_nil)) da_nil))))) de_int) (ds_one (ds_ret de_bl)) ds_nil)
  (ds_cons (ds_for c (di_rng1 c g_law_range T.b_range (da_cons (de_cb c g_law_max T.b_max bb_max (c_max2 c.calm) (da_cons de_int (da_cons (de_cb c g_law_min T.b_min bb_min (c_min2 c.calm) (da_cons de_int (da_cons (de_cb c g_law_len T.b_len bb_len c_len (da_cons (de_var c v_law_0) da_nil)) da_nil))) da_nil))) da_nil)) (dg_name c l_law_2) (ds_one (ds_if (dt_not (dt_val (de_callG hg c g_law_law_right C_law_right (by decide) (da_cons (de_callC c g_law_law_begun C_law_begun (by decide) (da_cons (de_var c v_law_0) (da_cons (de_var c v_law_2) da_nil))) da_nil)))) (ds_one (ds_ret de_bl)) ds_nil)))
  (ds_one (ds_ret de_bl))))))))
abbrev sI_TooGreat : Stmt := clsFn (top 5)
theorem x_TooGreat {C fI cda cc : Addr} {fd : FuncData} (X : XF P K mg "TooGreat" "TooGreat.__init__" sI_TooGreat C fI cda cc fd) (no0 : PySem.W.findIn K (.ref C) "limit" = some none) (top' : (P.main.scope.names.lookup ("super" : Str)).isSome = false) : XCl P w K mg base "TooGreat" ["limit"] := xcl1 (nms := (defScope sI_TooGreat).names) X no0 top' rfl rfl rfl rfl rfl ⟨_, rfl, rfl⟩ (by decide +kernel) rfl (by decide) (by decide) (fun _ => rfl) (fun _ => rfl) (fun _ _ _ _ _ us hl => match us, hl with | [_, _], _ => rfl)
abbrev sI_TooMany : Stmt := clsFn (top 4)
theorem x_TooMany {C fI cda cc : Addr} {fd : FuncData} (X : XF P K mg "TooMany" "TooMany.__init__" sI_TooMany C fI cda cc fd) (no0 : PySem.W.findIn K (.ref C) "limit" = some none) (top' : (P.main.scope.names.lookup ("super" : Str)).isSome = false) : XCl P w K mg base "TooMany" ["limit"] := xcl1 (nms := (defScope sI_TooMany).names) X no0 top' rfl rfl rfl rfl rfl ⟨_, rfl, rfl⟩ (by decide +kernel) rfl (by decide) (by decide) (fun _ => rfl) (fun _ => rfl) (fun _ _ _ _ _ us hl => match us, hl with | [_, _], _ => rfl)
end
open U UC
theorem all_mk {l : PySem.W.OpenLaw} {w : World} {K : PySem.W.Frag} {h : Heap} {mg : Str → Option Value} {fa : Addr} (X : K.In h) (G : h.Ns mainGlobals mg) (hfa : mg "law" = some (.ref fa))
    {f_divides : Addr} {od_divides an_divides : Option Addr} {sl_divides : Array (Option Value)} {oc_divides kV_divides dc_divides pm_divides cd_divides ct_divides : Value}
    (a_divides : PySem.W.nsIn K mainGlobals "divides" = some (some (.ref f_divides))) (l_divides : K.lookup f_divides = some ⟨oc_divides, od_divides, .func (PySem.W.fnOf "divides" "divides" (defArgs s_divides) (defBody s_divides) (defScope s_divides) .none kV_divides dc_divides pm_divides an_divides cd_divides ct_divides), sl_divides⟩) (cc_divides : PySem.W.codeIn K cd_divides "divides" = true) (k_divides : PySem.W.keepIn K (.ref f_divides) = true)
    {f_least_ones : Addr} {od_least_ones an_least_ones : Option Addr} {sl_least_ones : Array (Option Value)} {oc_least_ones kV_least_ones dc_least_ones pm_least_ones cd_least_ones ct_least_ones : Value}
    (a_least_ones : PySem.W.nsIn K mainGlobals "least_ones" = some (some (.ref f_least_ones))) (l_least_ones : K.lookup f_least_ones = some ⟨oc_least_ones, od_least_ones, .func (PySem.W.fnOf "least_ones" "least_ones" (defArgs s_least_ones) (defBody s_least_ones) (defScope s_least_ones) .none kV_least_ones dc_least_ones pm_least_ones an_least_ones cd_least_ones ct_least_ones), sl_least_ones⟩) (cc_least_ones : PySem.W.codeIn K cd_least_ones "least_ones" = true) (k_least_ones : PySem.W.keepIn K (.ref f_least_ones) = true)
    {f_made_x : Addr} {od_made_x an_made_x : Option Addr} {sl_made_x : Array (Option Value)} {oc_made_x kV_made_x dc_made_x pm_made_x cd_made_x ct_made_x : Value}
    (a_made_x : PySem.W.nsIn K mainGlobals "made" = some (some (.ref f_made_x))) (l_made_x : K.lookup f_made_x = some ⟨oc_made_x, od_made_x, .func (PySem.W.fnOf "made" "made" (defArgs s_made_x) (defBody s_made_x) (defScope s_made_x) .none kV_made_x dc_made_x pm_made_x an_made_x cd_made_x ct_made_x), sl_made_x⟩) (cc_made_x : PySem.W.codeIn K cd_made_x "made" = true) (k_made_x : PySem.W.keepIn K (.ref f_made_x) = true)
    {f_product_of_vertices : Addr} {od_product_of_vertices an_product_of_vertices : Option Addr} {sl_product_of_vertices : Array (Option Value)} {oc_product_of_vertices kV_product_of_vertices dc_product_of_vertices pm_product_of_vertices cd_product_of_vertices ct_product_of_vertices : Value}
    (a_product_of_vertices : PySem.W.nsIn K mainGlobals "product_of_vertices" = some (some (.ref f_product_of_vertices))) (l_product_of_vertices : K.lookup f_product_of_vertices = some ⟨oc_product_of_vertices, od_product_of_vertices, .func (PySem.W.fnOf "product_of_vertices" "product_of_vertices" (defArgs s_product_of_vertices) (defBody s_product_of_vertices) (defScope s_product_of_vertices) .none kV_product_of_vertices dc_product_of_vertices pm_product_of_vertices an_product_of_vertices cd_product_of_vertices ct_product_of_vertices), sl_product_of_vertices⟩) (cc_product_of_vertices : PySem.W.codeIn K cd_product_of_vertices "product_of_vertices" = true) (k_product_of_vertices : PySem.W.keepIn K (.ref f_product_of_vertices) = true)
    {f_all_faces : Addr} {od_all_faces an_all_faces : Option Addr} {sl_all_faces : Array (Option Value)} {oc_all_faces kV_all_faces dc_all_faces pm_all_faces cd_all_faces ct_all_faces : Value}
    (a_all_faces : PySem.W.nsIn K mainGlobals "all_faces" = some (some (.ref f_all_faces))) (l_all_faces : K.lookup f_all_faces = some ⟨oc_all_faces, od_all_faces, .func (PySem.W.fnOf "all_faces" "all_faces" (defArgs s_all_faces) (defBody s_all_faces) (defScope s_all_faces) .none kV_all_faces dc_all_faces pm_all_faces an_all_faces cd_all_faces ct_all_faces), sl_all_faces⟩) (cc_all_faces : PySem.W.codeIn K cd_all_faces "all_faces" = true) (k_all_faces : PySem.W.keepIn K (.ref f_all_faces) = true)
    {f_borders : Addr} {od_borders an_borders : Option Addr} {sl_borders : Array (Option Value)} {oc_borders kV_borders dc_borders pm_borders cd_borders ct_borders : Value}
    (a_borders : PySem.W.nsIn K mainGlobals "borders" = some (some (.ref f_borders))) (l_borders : K.lookup f_borders = some ⟨oc_borders, od_borders, .func (PySem.W.fnOf "borders" "borders" (defArgs s_borders) (defBody s_borders) (defScope s_borders) .none kV_borders dc_borders pm_borders an_borders cd_borders ct_borders), sl_borders⟩) (cc_borders : PySem.W.codeIn K cd_borders "borders" = true) (k_borders : PySem.W.keepIn K (.ref f_borders) = true)
    {f_least_lacking : Addr} {od_least_lacking an_least_lacking : Option Addr} {sl_least_lacking : Array (Option Value)} {oc_least_lacking kV_least_lacking dc_least_lacking pm_least_lacking cd_least_lacking ct_least_lacking : Value}
    (a_least_lacking : PySem.W.nsIn K mainGlobals "least_lacking" = some (some (.ref f_least_lacking))) (l_least_lacking : K.lookup f_least_lacking = some ⟨oc_least_lacking, od_least_lacking, .func (PySem.W.fnOf "least_lacking" "least_lacking" (defArgs s_least_lacking) (defBody s_least_lacking) (defScope s_least_lacking) .none kV_least_lacking dc_least_lacking pm_least_lacking an_least_lacking cd_least_lacking ct_least_lacking), sl_least_lacking⟩) (cc_least_lacking : PySem.W.codeIn K cd_least_lacking "least_lacking" = true) (k_least_lacking : PySem.W.keepIn K (.ref f_least_lacking) = true)
    {f_ideal_of_complex_x : Addr} {od_ideal_of_complex_x an_ideal_of_complex_x : Option Addr} {sl_ideal_of_complex_x : Array (Option Value)} {oc_ideal_of_complex_x kV_ideal_of_complex_x dc_ideal_of_complex_x pm_ideal_of_complex_x cd_ideal_of_complex_x ct_ideal_of_complex_x : Value}
    (a_ideal_of_complex_x : PySem.W.nsIn K mainGlobals "ideal_of_complex" = some (some (.ref f_ideal_of_complex_x))) (l_ideal_of_complex_x : K.lookup f_ideal_of_complex_x = some ⟨oc_ideal_of_complex_x, od_ideal_of_complex_x, .func (PySem.W.fnOf "ideal_of_complex" "ideal_of_complex" (defArgs s_ideal_of_complex_x) (defBody s_ideal_of_complex_x) (defScope s_ideal_of_complex_x) .none kV_ideal_of_complex_x dc_ideal_of_complex_x pm_ideal_of_complex_x an_ideal_of_complex_x cd_ideal_of_complex_x ct_ideal_of_complex_x), sl_ideal_of_complex_x⟩) (cc_ideal_of_complex_x : PySem.W.codeIn K cd_ideal_of_complex_x "ideal_of_complex" = true) (k_ideal_of_complex_x : PySem.W.keepIn K (.ref f_ideal_of_complex_x) = true)
    {f_law_limit_c : Addr} {od_law_limit_c an_law_limit_c : Option Addr} {sl_law_limit_c : Array (Option Value)} {oc_law_limit_c kV_law_limit_c dc_law_limit_c pm_law_limit_c cd_law_limit_c ct_law_limit_c : Value}
    (a_law_limit_c : PySem.W.nsIn K mainGlobals "_law_limit" = some (some (.ref f_law_limit_c))) (l_law_limit_c : K.lookup f_law_limit_c = some ⟨oc_law_limit_c, od_law_limit_c, .func (PySem.W.fnOf "_law_limit" "_law_limit" (defArgs s_law_limit_c) (defBody s_law_limit_c) (defScope s_law_limit_c) .none kV_law_limit_c dc_law_limit_c pm_law_limit_c an_law_limit_c cd_law_limit_c ct_law_limit_c), sl_law_limit_c⟩) (cc_law_limit_c : PySem.W.codeIn K cd_law_limit_c "_law_limit" = true) (k_law_limit_c : PySem.W.keepIn K (.ref f_law_limit_c) = true)
    {f_support_of : Addr} {od_support_of an_support_of : Option Addr} {sl_support_of : Array (Option Value)} {oc_support_of kV_support_of dc_support_of pm_support_of cd_support_of ct_support_of : Value}
    (a_support_of : PySem.W.nsIn K mainGlobals "support_of" = some (some (.ref f_support_of))) (l_support_of : K.lookup f_support_of = some ⟨oc_support_of, od_support_of, .func (PySem.W.fnOf "support_of" "support_of" (defArgs s_support_of) (defBody s_support_of) (defScope s_support_of) .none kV_support_of dc_support_of pm_support_of an_support_of cd_support_of ct_support_of), sl_support_of⟩) (cc_support_of : PySem.W.codeIn K cd_support_of "support_of" = true) (k_support_of : PySem.W.keepIn K (.ref f_support_of) = true)
    {f_is_inside : Addr} {od_is_inside an_is_inside : Option Addr} {sl_is_inside : Array (Option Value)} {oc_is_inside kV_is_inside dc_is_inside pm_is_inside cd_is_inside ct_is_inside : Value}
    (a_is_inside : PySem.W.nsIn K mainGlobals "is_inside" = some (some (.ref f_is_inside))) (l_is_inside : K.lookup f_is_inside = some ⟨oc_is_inside, od_is_inside, .func (PySem.W.fnOf "is_inside" "is_inside" (defArgs s_is_inside) (defBody s_is_inside) (defScope s_is_inside) .none kV_is_inside dc_is_inside pm_is_inside an_is_inside cd_is_inside ct_is_inside), sl_is_inside⟩) (cc_is_inside : PySem.W.codeIn K cd_is_inside "is_inside" = true) (k_is_inside : PySem.W.keepIn K (.ref f_is_inside) = true)
    {f_complex_of_ideal_x : Addr} {od_complex_of_ideal_x an_complex_of_ideal_x : Option Addr} {sl_complex_of_ideal_x : Array (Option Value)} {oc_complex_of_ideal_x kV_complex_of_ideal_x dc_complex_of_ideal_x pm_complex_of_ideal_x cd_complex_of_ideal_x ct_complex_of_ideal_x : Value}
    (a_complex_of_ideal_x : PySem.W.nsIn K mainGlobals "complex_of_ideal" = some (some (.ref f_complex_of_ideal_x))) (l_complex_of_ideal_x : K.lookup f_complex_of_ideal_x = some ⟨oc_complex_of_ideal_x, od_complex_of_ideal_x, .func (PySem.W.fnOf "complex_of_ideal" "complex_of_ideal" (defArgs s_complex_of_ideal_x) (defBody s_complex_of_ideal_x) (defScope s_complex_of_ideal_x) .none kV_complex_of_ideal_x dc_complex_of_ideal_x pm_complex_of_ideal_x an_complex_of_ideal_x cd_complex_of_ideal_x ct_complex_of_ideal_x), sl_complex_of_ideal_x⟩) (cc_complex_of_ideal_x : PySem.W.codeIn K cd_complex_of_ideal_x "complex_of_ideal" = true) (k_complex_of_ideal_x : PySem.W.keepIn K (.ref f_complex_of_ideal_x) = true)
    {f_law_draw : Addr} {od_law_draw an_law_draw : Option Addr} {sl_law_draw : Array (Option Value)} {oc_law_draw kV_law_draw dc_law_draw pm_law_draw cd_law_draw ct_law_draw : Value}
    (a_law_draw : PySem.W.nsIn K mainGlobals "_law_draw" = some (some (.ref f_law_draw))) (l_law_draw : K.lookup f_law_draw = some ⟨oc_law_draw, od_law_draw, .func (PySem.W.fnOf "_law_draw" "_law_draw" (defArgs s_law_draw) (defBody s_law_draw) (defScope s_law_draw) .none kV_law_draw dc_law_draw pm_law_draw an_law_draw cd_law_draw ct_law_draw), sl_law_draw⟩) (cc_law_draw : PySem.W.codeIn K cd_law_draw "_law_draw" = true) (k_law_draw : PySem.W.keepIn K (.ref f_law_draw) = true)
    {f_law_of : Addr} {od_law_of an_law_of : Option Addr} {sl_law_of : Array (Option Value)} {oc_law_of kV_law_of dc_law_of pm_law_of cd_law_of ct_law_of : Value}
    (a_law_of : PySem.W.nsIn K mainGlobals "_law_of" = some (some (.ref f_law_of))) (l_law_of : K.lookup f_law_of = some ⟨oc_law_of, od_law_of, .func (PySem.W.fnOf "_law_of" "_law_of" (defArgs s_law_of) (defBody s_law_of) (defScope s_law_of) .none kV_law_of dc_law_of pm_law_of an_law_of cd_law_of ct_law_of), sl_law_of⟩) (cc_law_of : PySem.W.codeIn K cd_law_of "_law_of" = true) (k_law_of : PySem.W.keepIn K (.ref f_law_of) = true)
    {f_law_inside : Addr} {od_law_inside an_law_inside : Option Addr} {sl_law_inside : Array (Option Value)} {oc_law_inside kV_law_inside dc_law_inside pm_law_inside cd_law_inside ct_law_inside : Value}
    (a_law_inside : PySem.W.nsIn K mainGlobals "_law_inside" = some (some (.ref f_law_inside))) (l_law_inside : K.lookup f_law_inside = some ⟨oc_law_inside, od_law_inside, .func (PySem.W.fnOf "_law_inside" "_law_inside" (defArgs s_law_inside) (defBody s_law_inside) (defScope s_law_inside) .none kV_law_inside dc_law_inside pm_law_inside an_law_inside cd_law_inside ct_law_inside), sl_law_inside⟩) (cc_law_inside : PySem.W.codeIn K cd_law_inside "_law_inside" = true) (k_law_inside : PySem.W.keepIn K (.ref f_law_inside) = true)
    {f_law_facets : Addr} {od_law_facets an_law_facets : Option Addr} {sl_law_facets : Array (Option Value)} {oc_law_facets kV_law_facets dc_law_facets pm_law_facets cd_law_facets ct_law_facets : Value}
    (a_law_facets : PySem.W.nsIn K mainGlobals "_law_facets" = some (some (.ref f_law_facets))) (l_law_facets : K.lookup f_law_facets = some ⟨oc_law_facets, od_law_facets, .func (PySem.W.fnOf "_law_facets" "_law_facets" (defArgs s_law_facets) (defBody s_law_facets) (defScope s_law_facets) .none kV_law_facets dc_law_facets pm_law_facets an_law_facets cd_law_facets ct_law_facets), sl_law_facets⟩) (cc_law_facets : PySem.W.codeIn K cd_law_facets "_law_facets" = true) (k_law_facets : PySem.W.keepIn K (.ref f_law_facets) = true)
    {f_law_drawn_set : Addr} {od_law_drawn_set an_law_drawn_set : Option Addr} {sl_law_drawn_set : Array (Option Value)} {oc_law_drawn_set kV_law_drawn_set dc_law_drawn_set pm_law_drawn_set cd_law_drawn_set ct_law_drawn_set : Value}
    (a_law_drawn_set : PySem.W.nsIn K mainGlobals "_law_drawn_set" = some (some (.ref f_law_drawn_set))) (l_law_drawn_set : K.lookup f_law_drawn_set = some ⟨oc_law_drawn_set, od_law_drawn_set, .func (PySem.W.fnOf "_law_drawn_set" "_law_drawn_set" (defArgs s_law_drawn_set) (defBody s_law_drawn_set) (defScope s_law_drawn_set) .none kV_law_drawn_set dc_law_drawn_set pm_law_drawn_set an_law_drawn_set cd_law_drawn_set ct_law_drawn_set), sl_law_drawn_set⟩) (cc_law_drawn_set : PySem.W.codeIn K cd_law_drawn_set "_law_drawn_set" = true) (k_law_drawn_set : PySem.W.keepIn K (.ref f_law_drawn_set) = true)
    {f_law_complex : Addr} {od_law_complex an_law_complex : Option Addr} {sl_law_complex : Array (Option Value)} {oc_law_complex kV_law_complex dc_law_complex pm_law_complex cd_law_complex ct_law_complex : Value}
    (a_law_complex : PySem.W.nsIn K mainGlobals "_law_complex" = some (some (.ref f_law_complex))) (l_law_complex : K.lookup f_law_complex = some ⟨oc_law_complex, od_law_complex, .func (PySem.W.fnOf "_law_complex" "_law_complex" (defArgs s_law_complex) (defBody s_law_complex) (defScope s_law_complex) .none kV_law_complex dc_law_complex pm_law_complex an_law_complex cd_law_complex ct_law_complex), sl_law_complex⟩) (cc_law_complex : PySem.W.codeIn K cd_law_complex "_law_complex" = true) (k_law_complex : PySem.W.keepIn K (.ref f_law_complex) = true)
    {f_law_monomial : Addr} {od_law_monomial an_law_monomial : Option Addr} {sl_law_monomial : Array (Option Value)} {oc_law_monomial kV_law_monomial dc_law_monomial pm_law_monomial cd_law_monomial ct_law_monomial : Value}
    (a_law_monomial : PySem.W.nsIn K mainGlobals "_law_monomial" = some (some (.ref f_law_monomial))) (l_law_monomial : K.lookup f_law_monomial = some ⟨oc_law_monomial, od_law_monomial, .func (PySem.W.fnOf "_law_monomial" "_law_monomial" (defArgs s_law_monomial) (defBody s_law_monomial) (defScope s_law_monomial) .none kV_law_monomial dc_law_monomial pm_law_monomial an_law_monomial cd_law_monomial ct_law_monomial), sl_law_monomial⟩) (cc_law_monomial : PySem.W.codeIn K cd_law_monomial "_law_monomial" = true) (k_law_monomial : PySem.W.keepIn K (.ref f_law_monomial) = true)
    {f_law_divides : Addr} {od_law_divides an_law_divides : Option Addr} {sl_law_divides : Array (Option Value)} {oc_law_divides kV_law_divides dc_law_divides pm_law_divides cd_law_divides ct_law_divides : Value}
    (a_law_divides : PySem.W.nsIn K mainGlobals "_law_divides" = some (some (.ref f_law_divides))) (l_law_divides : K.lookup f_law_divides = some ⟨oc_law_divides, od_law_divides, .func (PySem.W.fnOf "_law_divides" "_law_divides" (defArgs s_law_divides) (defBody s_law_divides) (defScope s_law_divides) .none kV_law_divides dc_law_divides pm_law_divides an_law_divides cd_law_divides ct_law_divides), sl_law_divides⟩) (cc_law_divides : PySem.W.codeIn K cd_law_divides "_law_divides" = true) (k_law_divides : PySem.W.keepIn K (.ref f_law_divides) = true)
    {f_law_least : Addr} {od_law_least an_law_least : Option Addr} {sl_law_least : Array (Option Value)} {oc_law_least kV_law_least dc_law_least pm_law_least cd_law_least ct_law_least : Value}
    (a_law_least : PySem.W.nsIn K mainGlobals "_law_least" = some (some (.ref f_law_least))) (l_law_least : K.lookup f_law_least = some ⟨oc_law_least, od_law_least, .func (PySem.W.fnOf "_law_least" "_law_least" (defArgs s_law_least) (defBody s_law_least) (defScope s_law_least) .none kV_law_least dc_law_least pm_law_least an_law_least cd_law_least ct_law_least), sl_law_least⟩) (cc_law_least : PySem.W.codeIn K cd_law_least "_law_least" = true) (k_law_least : PySem.W.keepIn K (.ref f_law_least) = true)
    {f_law_ideal : Addr} {od_law_ideal an_law_ideal : Option Addr} {sl_law_ideal : Array (Option Value)} {oc_law_ideal kV_law_ideal dc_law_ideal pm_law_ideal cd_law_ideal ct_law_ideal : Value}
    (a_law_ideal : PySem.W.nsIn K mainGlobals "_law_ideal" = some (some (.ref f_law_ideal))) (l_law_ideal : K.lookup f_law_ideal = some ⟨oc_law_ideal, od_law_ideal, .func (PySem.W.fnOf "_law_ideal" "_law_ideal" (defArgs s_law_ideal) (defBody s_law_ideal) (defScope s_law_ideal) .none kV_law_ideal dc_law_ideal pm_law_ideal an_law_ideal cd_law_ideal ct_law_ideal), sl_law_ideal⟩) (cc_law_ideal : PySem.W.codeIn K cd_law_ideal "_law_ideal" = true) (k_law_ideal : PySem.W.keepIn K (.ref f_law_ideal) = true)
    {f_law_squarefree : Addr} {od_law_squarefree an_law_squarefree : Option Addr} {sl_law_squarefree : Array (Option Value)} {oc_law_squarefree kV_law_squarefree dc_law_squarefree pm_law_squarefree cd_law_squarefree ct_law_squarefree : Value}
    (a_law_squarefree : PySem.W.nsIn K mainGlobals "_law_squarefree" = some (some (.ref f_law_squarefree))) (l_law_squarefree : K.lookup f_law_squarefree = some ⟨oc_law_squarefree, od_law_squarefree, .func (PySem.W.fnOf "_law_squarefree" "_law_squarefree" (defArgs s_law_squarefree) (defBody s_law_squarefree) (defScope s_law_squarefree) .none kV_law_squarefree dc_law_squarefree pm_law_squarefree an_law_squarefree cd_law_squarefree ct_law_squarefree), sl_law_squarefree⟩) (cc_law_squarefree : PySem.W.codeIn K cd_law_squarefree "_law_squarefree" = true) (k_law_squarefree : PySem.W.keepIn K (.ref f_law_squarefree) = true)
    {f_law_subsets : Addr} {od_law_subsets an_law_subsets : Option Addr} {sl_law_subsets : Array (Option Value)} {oc_law_subsets kV_law_subsets dc_law_subsets pm_law_subsets cd_law_subsets ct_law_subsets : Value}
    (a_law_subsets : PySem.W.nsIn K mainGlobals "_law_subsets" = some (some (.ref f_law_subsets))) (l_law_subsets : K.lookup f_law_subsets = some ⟨oc_law_subsets, od_law_subsets, .func (PySem.W.fnOf "_law_subsets" "_law_subsets" (defArgs s_law_subsets) (defBody s_law_subsets) (defScope s_law_subsets) .none kV_law_subsets dc_law_subsets pm_law_subsets an_law_subsets cd_law_subsets ct_law_subsets), sl_law_subsets⟩) (cc_law_subsets : PySem.W.codeIn K cd_law_subsets "_law_subsets" = true) (k_law_subsets : PySem.W.keepIn K (.ref f_law_subsets) = true)
    {f_law_in : Addr} {od_law_in an_law_in : Option Addr} {sl_law_in : Array (Option Value)} {oc_law_in kV_law_in dc_law_in pm_law_in cd_law_in ct_law_in : Value}
    (a_law_in : PySem.W.nsIn K mainGlobals "_law_in" = some (some (.ref f_law_in))) (l_law_in : K.lookup f_law_in = some ⟨oc_law_in, od_law_in, .func (PySem.W.fnOf "_law_in" "_law_in" (defArgs s_law_in) (defBody s_law_in) (defScope s_law_in) .none kV_law_in dc_law_in pm_law_in an_law_in cd_law_in ct_law_in), sl_law_in⟩) (cc_law_in : PySem.W.codeIn K cd_law_in "_law_in" = true) (k_law_in : PySem.W.keepIn K (.ref f_law_in) = true)
    {f_law_monomial_of : Addr} {od_law_monomial_of an_law_monomial_of : Option Addr} {sl_law_monomial_of : Array (Option Value)} {oc_law_monomial_of kV_law_monomial_of dc_law_monomial_of pm_law_monomial_of cd_law_monomial_of ct_law_monomial_of : Value}
    (a_law_monomial_of : PySem.W.nsIn K mainGlobals "_law_monomial_of" = some (some (.ref f_law_monomial_of))) (l_law_monomial_of : K.lookup f_law_monomial_of = some ⟨oc_law_monomial_of, od_law_monomial_of, .func (PySem.W.fnOf "_law_monomial_of" "_law_monomial_of" (defArgs s_law_monomial_of) (defBody s_law_monomial_of) (defScope s_law_monomial_of) .none kV_law_monomial_of dc_law_monomial_of pm_law_monomial_of an_law_monomial_of cd_law_monomial_of ct_law_monomial_of), sl_law_monomial_of⟩) (cc_law_monomial_of : PySem.W.codeIn K cd_law_monomial_of "_law_monomial_of" = true) (k_law_monomial_of : PySem.W.keepIn K (.ref f_law_monomial_of) = true)
    {f_law_outside : Addr} {od_law_outside an_law_outside : Option Addr} {sl_law_outside : Array (Option Value)} {oc_law_outside kV_law_outside dc_law_outside pm_law_outside cd_law_outside ct_law_outside : Value}
    (a_law_outside : PySem.W.nsIn K mainGlobals "_law_outside" = some (some (.ref f_law_outside))) (l_law_outside : K.lookup f_law_outside = some ⟨oc_law_outside, od_law_outside, .func (PySem.W.fnOf "_law_outside" "_law_outside" (defArgs s_law_outside) (defBody s_law_outside) (defScope s_law_outside) .none kV_law_outside dc_law_outside pm_law_outside an_law_outside cd_law_outside ct_law_outside), sl_law_outside⟩) (cc_law_outside : PySem.W.codeIn K cd_law_outside "_law_outside" = true) (k_law_outside : PySem.W.keepIn K (.ref f_law_outside) = true)
    {f_law_refused : Addr} {od_law_refused an_law_refused : Option Addr} {sl_law_refused : Array (Option Value)} {oc_law_refused kV_law_refused dc_law_refused pm_law_refused cd_law_refused ct_law_refused : Value}
    (a_law_refused : PySem.W.nsIn K mainGlobals "_law_refused" = some (some (.ref f_law_refused))) (l_law_refused : K.lookup f_law_refused = some ⟨oc_law_refused, od_law_refused, .func (PySem.W.fnOf "_law_refused" "_law_refused" (defArgs s_law_refused) (defBody s_law_refused) (defScope s_law_refused) .none kV_law_refused dc_law_refused pm_law_refused an_law_refused cd_law_refused ct_law_refused), sl_law_refused⟩) (cc_law_refused : PySem.W.codeIn K cd_law_refused "_law_refused" = true) (k_law_refused : PySem.W.keepIn K (.ref f_law_refused) = true)
    {f_is_integer : Addr} {od_is_integer an_is_integer : Option Addr} {sl_is_integer : Array (Option Value)} {oc_is_integer kV_is_integer dc_is_integer pm_is_integer cd_is_integer ct_is_integer : Value}
    (a_is_integer : PySem.W.nsIn K mainGlobals "is_integer" = some (some (.ref f_is_integer))) (l_is_integer : K.lookup f_is_integer = some ⟨oc_is_integer, od_is_integer, .func (PySem.W.fnOf "is_integer" "is_integer" (defArgs s_is_integer) (defBody s_is_integer) (defScope s_is_integer) .none kV_is_integer dc_is_integer pm_is_integer an_is_integer cd_is_integer ct_is_integer), sl_is_integer⟩) (cc_is_integer : PySem.W.codeIn K cd_is_integer "is_integer" = true) (k_is_integer : PySem.W.keepIn K (.ref f_is_integer) = true)
    {f_has_form : Addr} {od_has_form an_has_form : Option Addr} {sl_has_form : Array (Option Value)} {oc_has_form kV_has_form dc_has_form pm_has_form cd_has_form ct_has_form : Value}
    (a_has_form : PySem.W.nsIn K mainGlobals "has_form" = some (some (.ref f_has_form))) (l_has_form : K.lookup f_has_form = some ⟨oc_has_form, od_has_form, .func (PySem.W.fnOf "has_form" "has_form" (defArgs s_has_form) (defBody s_has_form) (defScope s_has_form) .none kV_has_form dc_has_form pm_has_form an_has_form cd_has_form ct_has_form), sl_has_form⟩) (cc_has_form : PySem.W.codeIn K cd_has_form "has_form" = true) (k_has_form : PySem.W.keepIn K (.ref f_has_form) = true)
    {f_is_monomial : Addr} {od_is_monomial an_is_monomial : Option Addr} {sl_is_monomial : Array (Option Value)} {oc_is_monomial kV_is_monomial dc_is_monomial pm_is_monomial cd_is_monomial ct_is_monomial : Value}
    (a_is_monomial : PySem.W.nsIn K mainGlobals "is_monomial" = some (some (.ref f_is_monomial))) (l_is_monomial : K.lookup f_is_monomial = some ⟨oc_is_monomial, od_is_monomial, .func (PySem.W.fnOf "is_monomial" "is_monomial" (defArgs s_is_monomial) (defBody s_is_monomial) (defScope s_is_monomial) .none kV_is_monomial dc_is_monomial pm_is_monomial an_is_monomial cd_is_monomial ct_is_monomial), sl_is_monomial⟩) (cc_is_monomial : PySem.W.codeIn K cd_is_monomial "is_monomial" = true) (k_is_monomial : PySem.W.keepIn K (.ref f_is_monomial) = true)
    {f_breach : Addr} {od_breach an_breach : Option Addr} {sl_breach : Array (Option Value)} {oc_breach kV_breach dc_breach pm_breach cd_breach ct_breach : Value}
    (a_breach : PySem.W.nsIn K mainGlobals "breach" = some (some (.ref f_breach))) (l_breach : K.lookup f_breach = some ⟨oc_breach, od_breach, .func (PySem.W.fnOf "breach" "breach" (defArgs s_breach) (defBody s_breach) (defScope s_breach) .none kV_breach dc_breach pm_breach an_breach cd_breach ct_breach), sl_breach⟩) (cc_breach : PySem.W.codeIn K cd_breach "breach" = true) (k_breach : PySem.W.keepIn K (.ref f_breach) = true)
    {f_check_ideal : Addr} {od_check_ideal an_check_ideal : Option Addr} {sl_check_ideal : Array (Option Value)} {oc_check_ideal kV_check_ideal dc_check_ideal pm_check_ideal cd_check_ideal ct_check_ideal : Value}
    (a_check_ideal : PySem.W.nsIn K mainGlobals "check_ideal" = some (some (.ref f_check_ideal))) (l_check_ideal : K.lookup f_check_ideal = some ⟨oc_check_ideal, od_check_ideal, .func (PySem.W.fnOf "check_ideal" "check_ideal" (defArgs s_check_ideal) (defBody s_check_ideal) (defScope s_check_ideal) .none kV_check_ideal dc_check_ideal pm_check_ideal an_check_ideal cd_check_ideal ct_check_ideal), sl_check_ideal⟩) (cc_check_ideal : PySem.W.codeIn K cd_check_ideal "check_ideal" = true) (k_check_ideal : PySem.W.keepIn K (.ref f_check_ideal) = true)
    {f_law_faces : Addr} {od_law_faces an_law_faces : Option Addr} {sl_law_faces : Array (Option Value)} {oc_law_faces kV_law_faces dc_law_faces pm_law_faces cd_law_faces ct_law_faces : Value}
    (a_law_faces : PySem.W.nsIn K mainGlobals "_law_faces" = some (some (.ref f_law_faces))) (l_law_faces : K.lookup f_law_faces = some ⟨oc_law_faces, od_law_faces, .func (PySem.W.fnOf "_law_faces" "_law_faces" (defArgs s_law_faces) (defBody s_law_faces) (defScope s_law_faces) .none kV_law_faces dc_law_faces pm_law_faces an_law_faces cd_law_faces ct_law_faces), sl_law_faces⟩) (cc_law_faces : PySem.W.codeIn K cd_law_faces "_law_faces" = true) (k_law_faces : PySem.W.keepIn K (.ref f_law_faces) = true)
    {f_law_lacking : Addr} {od_law_lacking an_law_lacking : Option Addr} {sl_law_lacking : Array (Option Value)} {oc_law_lacking kV_law_lacking dc_law_lacking pm_law_lacking cd_law_lacking ct_law_lacking : Value}
    (a_law_lacking : PySem.W.nsIn K mainGlobals "_law_lacking" = some (some (.ref f_law_lacking))) (l_law_lacking : K.lookup f_law_lacking = some ⟨oc_law_lacking, od_law_lacking, .func (PySem.W.fnOf "_law_lacking" "_law_lacking" (defArgs s_law_lacking) (defBody s_law_lacking) (defScope s_law_lacking) .none kV_law_lacking dc_law_lacking pm_law_lacking an_law_lacking cd_law_lacking ct_law_lacking), sl_law_lacking⟩) (cc_law_lacking : PySem.W.codeIn K cd_law_lacking "_law_lacking" = true) (k_law_lacking : PySem.W.keepIn K (.ref f_law_lacking) = true)
    {f_law_right : Addr} {od_law_right an_law_right : Option Addr} {sl_law_right : Array (Option Value)} {oc_law_right kV_law_right dc_law_right pm_law_right cd_law_right ct_law_right : Value}
    (a_law_right : PySem.W.nsIn K mainGlobals "_law_right" = some (some (.ref f_law_right))) (l_law_right : K.lookup f_law_right = some ⟨oc_law_right, od_law_right, .func (PySem.W.fnOf "_law_right" "_law_right" (defArgs s_law_right) (defBody s_law_right) (defScope s_law_right) .none kV_law_right dc_law_right pm_law_right an_law_right cd_law_right ct_law_right), sl_law_right⟩) (cc_law_right : PySem.W.codeIn K cd_law_right "_law_right" = true) (k_law_right : PySem.W.keepIn K (.ref f_law_right) = true)
    {f_law_begun : Addr} {od_law_begun an_law_begun : Option Addr} {sl_law_begun : Array (Option Value)} {oc_law_begun kV_law_begun dc_law_begun pm_law_begun cd_law_begun ct_law_begun : Value}
    (a_law_begun : PySem.W.nsIn K mainGlobals "_law_begun" = some (some (.ref f_law_begun))) (l_law_begun : K.lookup f_law_begun = some ⟨oc_law_begun, od_law_begun, .func (PySem.W.fnOf "_law_begun" "_law_begun" (defArgs s_law_begun) (defBody s_law_begun) (defScope s_law_begun) .none kV_law_begun dc_law_begun pm_law_begun an_law_begun cd_law_begun ct_law_begun), sl_law_begun⟩) (cc_law_begun : PySem.W.codeIn K cd_law_begun "_law_begun" = true) (k_law_begun : PySem.W.keepIn K (.ref f_law_begun) = true)
    {f_law cA_ Pt : Addr} {od_law an_law : Option Addr} {sl_law : Array (Option Value)} {oc_law kV_law dc_law pm_law ct_law : Value}
    (a_law : PySem.W.nsIn K mainGlobals "law" = some (some (.ref f_law))) (l_law : K.lookup f_law = some ⟨oc_law, od_law, .func (PySem.W.fnOf "law" "law" (defArgs s_law) (defBody s_law) (defScope s_law) .none kV_law dc_law pm_law an_law (.ref cA_) ct_law), sl_law⟩) (cc_law : PySem.W.codeIn K (.ref cA_) "law" = true) (k_law : PySem.W.keepIn K (.ref f_law) = true)
    {xcl_ : Value} {xdd_ : Option Addr} {xvs_ : Array Value} {xsl_ : Array (Option Value)} (lc_ : K.lookup cA_ = some ⟨xcl_, xdd_, .fields xvs_, xsl_⟩) (v11_ : xvs_[11]? = some (.ref Pt)) (hd_ : PySem.W.codeHdIn K cA_ Pt = true) (nl_ : K.lookup Pt = none) {ts : List Addr} (Y : ∀ P ∈ ts, h.get? P = some (PySem.W.tabObj #[])) (ts_ : Pt ∈ ts)
    (z_all : PySem.W.nsIn K mainGlobals "all" = some none)
    (z_any : PySem.W.nsIn K mainGlobals "any" = some none)
    (z_bool : PySem.W.nsIn K mainGlobals "bool" = some none)
    (z_enumerate : PySem.W.nsIn K mainGlobals "enumerate" = some none)
    (z_int : PySem.W.nsIn K mainGlobals "int" = some none)
    (z_isinstance : PySem.W.nsIn K mainGlobals "isinstance" = some none)
    (z_len : PySem.W.nsIn K mainGlobals "len" = some none)
    (z_list : PySem.W.nsIn K mainGlobals "list" = some none)
    (z_max : PySem.W.nsIn K mainGlobals "max" = some none)
    (z_min : PySem.W.nsIn K mainGlobals "min" = some none)
    (z_range : PySem.W.nsIn K mainGlobals "range" = some none)
    (z_repr : PySem.W.nsIn K mainGlobals "repr" = some none)
    (z_set : PySem.W.nsIn K mainGlobals "set" = some none)
    (z_sorted : PySem.W.nsIn K mainGlobals "sorted" = some none)
    (z_sum : PySem.W.nsIn K mainGlobals "sum" = some none)
    (z_tuple : PySem.W.nsIn K mainGlobals "tuple" = some none)
    (z_zip : PySem.W.nsIn K mainGlobals "zip" = some none)
    {t_MOST_EXPONENT : Tok} (y_MOST_EXPONENT : PySem.W.nsIn K mainGlobals "MOST_EXPONENT" = some (some (.int 60 t_MOST_EXPONENT)))
    {t_MOST_GENERATORS : Tok} (y_MOST_GENERATORS : PySem.W.nsIn K mainGlobals "MOST_GENERATORS" = some (some (.int 60 t_MOST_GENERATORS)))
    {t_MOST_VARIABLES : Tok} (y_MOST_VARIABLES : PySem.W.nsIn K mainGlobals "MOST_VARIABLES" = some (some (.int 12 t_MOST_VARIABLES)))
    (x_combinations : PySem.W.nsIn K mainGlobals "combinations" = some (some (.type "itertools.combinations")))
    (gs_ : PySem.W.specialIn K (.builtin "object.__class__") "__get__" = some (some (.builtin "getset_descriptor.__get__")))
    (tk_ : PySem.W.takesIn K (.builtin "object.__class__") = some true)
    (z_super : PySem.W.nsIn K mainGlobals "super" = some none)
    (opq_ : PySem.W.nsIn K cStatics "thirdparty.any" = some none)
    (topS : (l.prog.main.scope.names.lookup ("super" : Str)).isSome = false)
    {C_NotIdeal : Addr} {cd_NotIdeal : ClassData}
    (a_NotIdeal : PySem.W.nsIn K mainGlobals "NotIdeal" = some (some (.ref C_NotIdeal)))
    (cl_NotIdeal : PySem.W.clsIn K C_NotIdeal = some cd_NotIdeal)
    (ga_NotIdeal : PySem.W.findIn K (.ref C_NotIdeal) "__getattribute__" = some (some (.builtin "BaseException.__getattribute__")))
    (gt_NotIdeal : PySem.W.findIn K (.ref C_NotIdeal) "__getattr__" = some none)
    (sb_NotIdeal : PySem.W.subIn K (.ref C_NotIdeal) (.type "BaseException") = some true)
    (hd_NotIdeal : PySem.W.hasDictIn K C_NotIdeal = true)
    (ty_NotIdeal : PySem.W.typeIn K (.ref C_NotIdeal) = some (.type "type"))
    (ca_NotIdeal : PySem.W.findIn K (.ref C_NotIdeal) "__class__" = some (some (.builtin "object.__class__")))
    (ob_NotIdeal : PySem.W.mroIn K C_NotIdeal (.type "object") = some true)
    {C_TooMany : Addr} {cd_TooMany : ClassData}
    (a_TooMany : PySem.W.nsIn K mainGlobals "TooMany" = some (some (.ref C_TooMany)))
    (cl_TooMany : PySem.W.clsIn K C_TooMany = some cd_TooMany)
    (ga_TooMany : PySem.W.findIn K (.ref C_TooMany) "__getattribute__" = some (some (.builtin "BaseException.__getattribute__")))
    (gt_TooMany : PySem.W.findIn K (.ref C_TooMany) "__getattr__" = some none)
    (sb_TooMany : PySem.W.subIn K (.ref C_TooMany) (.type "BaseException") = some true)
    (hd_TooMany : PySem.W.hasDictIn K C_TooMany = true)
    (ty_TooMany : PySem.W.typeIn K (.ref C_TooMany) = some (.type "type"))
    (ca_TooMany : PySem.W.findIn K (.ref C_TooMany) "__class__" = some (some (.builtin "object.__class__")))
    (ob_TooMany : PySem.W.mroIn K C_TooMany (.type "object") = some true)
    {C_TooGreat : Addr} {cd_TooGreat : ClassData}
    (a_TooGreat : PySem.W.nsIn K mainGlobals "TooGreat" = some (some (.ref C_TooGreat)))
    (cl_TooGreat : PySem.W.clsIn K C_TooGreat = some cd_TooGreat)
    (ga_TooGreat : PySem.W.findIn K (.ref C_TooGreat) "__getattribute__" = some (some (.builtin "BaseException.__getattribute__")))
    (gt_TooGreat : PySem.W.findIn K (.ref C_TooGreat) "__getattr__" = some none)
    (sb_TooGreat : PySem.W.subIn K (.ref C_TooGreat) (.type "BaseException") = some true)
    (hd_TooGreat : PySem.W.hasDictIn K C_TooGreat = true)
    (ty_TooGreat : PySem.W.typeIn K (.ref C_TooGreat) = some (.type "type"))
    (ca_TooGreat : PySem.W.findIn K (.ref C_TooGreat) "__class__" = some (some (.builtin "object.__class__")))
    (ob_TooGreat : PySem.W.mroIn K C_TooGreat (.type "object") = some true)
    {C_NotSquarefree : Addr} {cd_NotSquarefree : ClassData}
    (a_NotSquarefree : PySem.W.nsIn K mainGlobals "NotSquarefree" = some (some (.ref C_NotSquarefree)))
    (cl_NotSquarefree : PySem.W.clsIn K C_NotSquarefree = some cd_NotSquarefree)
    (ga_NotSquarefree : PySem.W.findIn K (.ref C_NotSquarefree) "__getattribute__" = some (some (.builtin "BaseException.__getattribute__")))
    (gt_NotSquarefree : PySem.W.findIn K (.ref C_NotSquarefree) "__getattr__" = some none)
    (sb_NotSquarefree : PySem.W.subIn K (.ref C_NotSquarefree) (.type "BaseException") = some true)
    (hd_NotSquarefree : PySem.W.hasDictIn K C_NotSquarefree = true)
    (ty_NotSquarefree : PySem.W.typeIn K (.ref C_NotSquarefree) = some (.type "type"))
    (ca_NotSquarefree : PySem.W.findIn K (.ref C_NotSquarefree) "__class__" = some (some (.builtin "object.__class__")))
    (ob_NotSquarefree : PySem.W.mroIn K C_NotSquarefree (.type "object") = some true)
    {C_JointError : Addr} {cd_JointError : ClassData}
    (a_JointError : PySem.W.nsIn K mainGlobals "JointError" = some (some (.ref C_JointError)))
    (cl_JointError : PySem.W.clsIn K C_JointError = some cd_JointError)
    (ga_JointError : PySem.W.findIn K (.ref C_JointError) "__getattribute__" = some (some (.builtin "BaseException.__getattribute__")))
    (gt_JointError : PySem.W.findIn K (.ref C_JointError) "__getattr__" = some none)
    (sb_JointError : PySem.W.subIn K (.ref C_JointError) (.type "BaseException") = some true)
    (hd_JointError : PySem.W.hasDictIn K C_JointError = true)
    (ty_JointError : PySem.W.typeIn K (.ref C_JointError) = some (.type "type"))
    (ca_JointError : PySem.W.findIn K (.ref C_JointError) "__class__" = some (some (.builtin "object.__class__")))
    (ob_JointError : PySem.W.mroIn K C_JointError (.type "object") = some true)
    (no_NotIdeal_limit : PySem.W.findIn K (.ref C_NotIdeal) "limit" = some none)
    (no_NotIdeal_place : PySem.W.findIn K (.ref C_NotIdeal) "place" = some none)
    (no_NotIdeal_rule : PySem.W.findIn K (.ref C_NotIdeal) "rule" = some none)
    (su_NotIdeal_NotIdeal : PySem.W.subIn K (.ref C_NotIdeal) (.ref C_NotIdeal) = some true)
    (su_NotIdeal_TooMany : PySem.W.subIn K (.ref C_NotIdeal) (.ref C_TooMany) = some false)
    (su_NotIdeal_TooGreat : PySem.W.subIn K (.ref C_NotIdeal) (.ref C_TooGreat) = some false)
    (su_NotIdeal_NotSquarefree : PySem.W.subIn K (.ref C_NotIdeal) (.ref C_NotSquarefree) = some false)
    (su_NotIdeal_JointError : PySem.W.subIn K (.ref C_NotIdeal) (.ref C_JointError) = some true)
    (no_TooMany_limit : PySem.W.findIn K (.ref C_TooMany) "limit" = some none)
    (no_TooMany_place : PySem.W.findIn K (.ref C_TooMany) "place" = some none)
    (no_TooMany_rule : PySem.W.findIn K (.ref C_TooMany) "rule" = some none)
    (su_TooMany_NotIdeal : PySem.W.subIn K (.ref C_TooMany) (.ref C_NotIdeal) = some false)
    (su_TooMany_TooMany : PySem.W.subIn K (.ref C_TooMany) (.ref C_TooMany) = some true)
    (su_TooMany_TooGreat : PySem.W.subIn K (.ref C_TooMany) (.ref C_TooGreat) = some false)
    (su_TooMany_NotSquarefree : PySem.W.subIn K (.ref C_TooMany) (.ref C_NotSquarefree) = some false)
    (su_TooMany_JointError : PySem.W.subIn K (.ref C_TooMany) (.ref C_JointError) = some true)
    (no_TooGreat_limit : PySem.W.findIn K (.ref C_TooGreat) "limit" = some none)
    (no_TooGreat_place : PySem.W.findIn K (.ref C_TooGreat) "place" = some none)
    (no_TooGreat_rule : PySem.W.findIn K (.ref C_TooGreat) "rule" = some none)
    (su_TooGreat_NotIdeal : PySem.W.subIn K (.ref C_TooGreat) (.ref C_NotIdeal) = some false)
    (su_TooGreat_TooMany : PySem.W.subIn K (.ref C_TooGreat) (.ref C_TooMany) = some false)
    (su_TooGreat_TooGreat : PySem.W.subIn K (.ref C_TooGreat) (.ref C_TooGreat) = some true)
    (su_TooGreat_NotSquarefree : PySem.W.subIn K (.ref C_TooGreat) (.ref C_NotSquarefree) = some false)
    (su_TooGreat_JointError : PySem.W.subIn K (.ref C_TooGreat) (.ref C_JointError) = some true)
    (no_NotSquarefree_limit : PySem.W.findIn K (.ref C_NotSquarefree) "limit" = some none)
    (no_NotSquarefree_place : PySem.W.findIn K (.ref C_NotSquarefree) "place" = some none)
    (no_NotSquarefree_rule : PySem.W.findIn K (.ref C_NotSquarefree) "rule" = some none)
    (su_NotSquarefree_NotIdeal : PySem.W.subIn K (.ref C_NotSquarefree) (.ref C_NotIdeal) = some false)
    (su_NotSquarefree_TooMany : PySem.W.subIn K (.ref C_NotSquarefree) (.ref C_TooMany) = some false)
    (su_NotSquarefree_TooGreat : PySem.W.subIn K (.ref C_NotSquarefree) (.ref C_TooGreat) = some false)
    (su_NotSquarefree_NotSquarefree : PySem.W.subIn K (.ref C_NotSquarefree) (.ref C_NotSquarefree) = some true)
    (su_NotSquarefree_JointError : PySem.W.subIn K (.ref C_NotSquarefree) (.ref C_JointError) = some true)
    (bi_NotSquarefree : PySem.W.excIn K C_NotSquarefree PySem.HandSPX.veTail "ValueError.__new__" = true)
    (kC_NotSquarefree : PySem.W.keepIn K (.ref C_NotSquarefree) = true)
    {fI_TooGreat cda_TooGreat cc_TooGreat CN_TooGreat : Addr} {cnm_TooGreat cq_TooGreat fl_TooGreat : Str} {bs_TooGreat bm_TooGreat su_TooGreat : List Value} {sn_TooGreat : List Str} {ab_TooGreat : Bool} {col_TooGreat : Option Bool} {dd_TooGreat iod_TooGreat ian_TooGreat cdd_TooGreat cld_TooGreat : Option Addr} {k0_TooGreat k1_TooGreat k2_TooGreat k3_TooGreat k5_TooGreat : Option Value} {ioc_TooGreat ikV_TooGreat idc_TooGreat ipm_TooGreat ict_TooGreat ccl_TooGreat cll_TooGreat : Value} {isl_TooGreat ccs_TooGreat csl_TooGreat : Array (Option Value)} {vs_TooGreat : Array Value} {tf_TooGreat : Tok}
    (lC_TooGreat : K.lookup C_TooGreat = some (excClassObj cnm_TooGreat cq_TooGreat C_TooGreat CN_TooGreat bs_TooGreat bm_TooGreat true sn_TooGreat su_TooGreat ab_TooGreat col_TooGreat dd_TooGreat k0_TooGreat k1_TooGreat k2_TooGreat k3_TooGreat k5_TooGreat "ValueError.__new__"))
    (rv_TooGreat : PySem.HandSPX.refsVE bm_TooGreat = true)
    (sa_TooGreat : PySem.W.findIn K (.ref C_TooGreat) "__setattr__" = some (some (.builtin "object.__setattr__")))
    (kC_TooGreat : PySem.W.keepIn K (.ref C_TooGreat) = true)
    (iC_TooGreat : PySem.W.findIn K (.ref C_TooGreat) "__init__" = some (some (.ref fI_TooGreat)))
    (tI_TooGreat : PySem.W.typeIn K (.ref fI_TooGreat) = some (.type "function"))
    (lI_TooGreat : K.lookup fI_TooGreat = some ⟨ioc_TooGreat, iod_TooGreat, .func (PySem.W.ksFn "__init__" "TooGreat.__init__" (defArgs sI_TooGreat) (defBody sI_TooGreat) (defScope sI_TooGreat) .none ikV_TooGreat idc_TooGreat ipm_TooGreat ian_TooGreat (.ref cda_TooGreat) ict_TooGreat cc_TooGreat), isl_TooGreat⟩)
    (co_TooGreat : PySem.W.codeIn K (.ref cda_TooGreat) "TooGreat.__init__" = true)
    (ld_TooGreat : K.lookup cda_TooGreat = some ⟨ccl_TooGreat, cdd_TooGreat, .fields vs_TooGreat, ccs_TooGreat⟩)
    (v2_TooGreat : vs_TooGreat[2]? = some (.str fl_TooGreat tf_TooGreat))
    (hf_TooGreat : ((l.prog.main.file : Str) == fl_TooGreat) = true)
    (le_TooGreat : K.lookup cc_TooGreat = some ⟨cll_TooGreat, cld_TooGreat, .cell (some (.ref C_TooGreat)), csl_TooGreat⟩)
    (mt_TooGreat : PySem.W.ks_superIn K C_TooGreat C_TooGreat "__init__" = some (some (.builtin "ValueError.__init__")))
    (sv_TooGreat : PySem.W.subIn K (.ref C_TooGreat) (.type "ValueError") = some true)
    (sc_TooGreat : PySem.W.mroIn K C_TooGreat (.ref C_TooGreat) = some true)
    {fI_TooMany cda_TooMany cc_TooMany CN_TooMany : Addr} {cnm_TooMany cq_TooMany fl_TooMany : Str} {bs_TooMany bm_TooMany su_TooMany : List Value} {sn_TooMany : List Str} {ab_TooMany : Bool} {col_TooMany : Option Bool} {dd_TooMany iod_TooMany ian_TooMany cdd_TooMany cld_TooMany : Option Addr} {k0_TooMany k1_TooMany k2_TooMany k3_TooMany k5_TooMany : Option Value} {ioc_TooMany ikV_TooMany idc_TooMany ipm_TooMany ict_TooMany ccl_TooMany cll_TooMany : Value} {isl_TooMany ccs_TooMany csl_TooMany : Array (Option Value)} {vs_TooMany : Array Value} {tf_TooMany : Tok}
    (lC_TooMany : K.lookup C_TooMany = some (excClassObj cnm_TooMany cq_TooMany C_TooMany CN_TooMany bs_TooMany bm_TooMany true sn_TooMany su_TooMany ab_TooMany col_TooMany dd_TooMany k0_TooMany k1_TooMany k2_TooMany k3_TooMany k5_TooMany "ValueError.__new__"))
    (rv_TooMany : PySem.HandSPX.refsVE bm_TooMany = true)
    (sa_TooMany : PySem.W.findIn K (.ref C_TooMany) "__setattr__" = some (some (.builtin "object.__setattr__")))
    (kC_TooMany : PySem.W.keepIn K (.ref C_TooMany) = true)
    (iC_TooMany : PySem.W.findIn K (.ref C_TooMany) "__init__" = some (some (.ref fI_TooMany)))
    (tI_TooMany : PySem.W.typeIn K (.ref fI_TooMany) = some (.type "function"))
    (lI_TooMany : K.lookup fI_TooMany = some ⟨ioc_TooMany, iod_TooMany, .func (PySem.W.ksFn "__init__" "TooMany.__init__" (defArgs sI_TooMany) (defBody sI_TooMany) (defScope sI_TooMany) .none ikV_TooMany idc_TooMany ipm_TooMany ian_TooMany (.ref cda_TooMany) ict_TooMany cc_TooMany), isl_TooMany⟩)
    (co_TooMany : PySem.W.codeIn K (.ref cda_TooMany) "TooMany.__init__" = true)
    (ld_TooMany : K.lookup cda_TooMany = some ⟨ccl_TooMany, cdd_TooMany, .fields vs_TooMany, ccs_TooMany⟩)
    (v2_TooMany : vs_TooMany[2]? = some (.str fl_TooMany tf_TooMany))
    (hf_TooMany : ((l.prog.main.file : Str) == fl_TooMany) = true)
    (le_TooMany : K.lookup cc_TooMany = some ⟨cll_TooMany, cld_TooMany, .cell (some (.ref C_TooMany)), csl_TooMany⟩)
    (mt_TooMany : PySem.W.ks_superIn K C_TooMany C_TooMany "__init__" = some (some (.builtin "ValueError.__init__")))
    (sv_TooMany : PySem.W.subIn K (.ref C_TooMany) (.type "ValueError") = some true)
    (sc_TooMany : PySem.W.mroIn K C_TooMany (.ref C_TooMany) = some true) :
    L2.LawAtG l w K 7 63 "script" mg fa h := by
  have e := hfa.symm.trans (PySem.W.mg_of X G a_law)
  cases e
  have T : Tx mg := ⟨PySem.W.mg_none_of X G z_all, PySem.W.mg_none_of X G z_any, PySem.W.mg_none_of X G z_bool, PySem.W.mg_none_of X G z_enumerate, PySem.W.mg_none_of X G z_int, PySem.W.mg_none_of X G z_isinstance, PySem.W.mg_none_of X G z_len, PySem.W.mg_none_of X G z_list, PySem.W.mg_none_of X G z_max, PySem.W.mg_none_of X G z_min, PySem.W.mg_none_of X G z_range, PySem.W.mg_none_of X G z_repr, PySem.W.mg_none_of X G z_set, PySem.W.mg_none_of X G z_sorted, PySem.W.mg_none_of X G z_sum, PySem.W.mg_none_of X G z_tuple, PySem.W.mg_none_of X G z_zip, ⟨_, PySem.W.mg_of X G y_MOST_EXPONENT⟩, ⟨_, PySem.W.mg_of X G y_MOST_GENERATORS⟩, ⟨_, PySem.W.mg_of X G y_MOST_VARIABLES⟩, PySem.W.mg_of X G x_combinations⟩
  let tB : Tb := ⟨[(Pt, Lm ("law" ++ ".<locals>."))]⟩
  refine ⟨PySem.W.fnOf "law" "law" (defArgs s_law) (defBody s_law) (defScope s_law) .none kV_law dc_law pm_law an_law (.ref cA_) ct_law, [(cA_, Pt)], @hsp tB K sp_law, fun p hp => by rw [List.mem_singleton.mp hp]; exact Y _ ts_, fun p hp => by rw [List.mem_singleton.mp hp]; exact nl_, fun p hp => by rw [List.mem_singleton.mp hp]; exact PySem.W.codeHd_of_K X hd_, fun s v => .of_eq rfl, fun H a ns hl hT hS => law_startT (tB := tB) rfl U.law_true hl (hT _ (List.mem_singleton_self _)) hS, fun base _ _ hB => ?_⟩
  have B_ := hB _ (List.mem_singleton_self _)
  have EC_NotIdeal : ErrC K mg ["limit", "place", "rule"] "NotIdeal" C_NotIdeal := ⟨PySem.W.mg_of X G a_NotIdeal, ⟨by rw [cl_NotIdeal]; rfl, ga_NotIdeal, gt_NotIdeal, sb_NotIdeal, hd_NotIdeal, ty_NotIdeal, ca_NotIdeal, ob_NotIdeal⟩, (List.forall_mem_cons.2 ⟨no_NotIdeal_limit, (List.forall_mem_cons.2 ⟨no_NotIdeal_place, (List.forall_mem_cons.2 ⟨no_NotIdeal_rule, (List.forall_mem_nil _)⟩)⟩)⟩)⟩
  have EC_TooMany : ErrC K mg ["limit", "place", "rule"] "TooMany" C_TooMany := ⟨PySem.W.mg_of X G a_TooMany, ⟨by rw [cl_TooMany]; rfl, ga_TooMany, gt_TooMany, sb_TooMany, hd_TooMany, ty_TooMany, ca_TooMany, ob_TooMany⟩, (List.forall_mem_cons.2 ⟨no_TooMany_limit, (List.forall_mem_cons.2 ⟨no_TooMany_place, (List.forall_mem_cons.2 ⟨no_TooMany_rule, (List.forall_mem_nil _)⟩)⟩)⟩)⟩
  have EC_TooGreat : ErrC K mg ["limit", "place", "rule"] "TooGreat" C_TooGreat := ⟨PySem.W.mg_of X G a_TooGreat, ⟨by rw [cl_TooGreat]; rfl, ga_TooGreat, gt_TooGreat, sb_TooGreat, hd_TooGreat, ty_TooGreat, ca_TooGreat, ob_TooGreat⟩, (List.forall_mem_cons.2 ⟨no_TooGreat_limit, (List.forall_mem_cons.2 ⟨no_TooGreat_place, (List.forall_mem_cons.2 ⟨no_TooGreat_rule, (List.forall_mem_nil _)⟩)⟩)⟩)⟩
  have EC_NotSquarefree : ErrC K mg ["limit", "place", "rule"] "NotSquarefree" C_NotSquarefree := ⟨PySem.W.mg_of X G a_NotSquarefree, ⟨by rw [cl_NotSquarefree]; rfl, ga_NotSquarefree, gt_NotSquarefree, sb_NotSquarefree, hd_NotSquarefree, ty_NotSquarefree, ca_NotSquarefree, ob_NotSquarefree⟩, (List.forall_mem_cons.2 ⟨no_NotSquarefree_limit, (List.forall_mem_cons.2 ⟨no_NotSquarefree_place, (List.forall_mem_cons.2 ⟨no_NotSquarefree_rule, (List.forall_mem_nil _)⟩)⟩)⟩)⟩
  have ER : Errs K mg ["limit", "place", "rule"] "JointError" [("NotIdeal", C_NotIdeal), ("TooMany", C_TooMany), ("TooGreat", C_TooGreat), ("NotSquarefree", C_NotSquarefree)] := ⟨(List.forall_mem_cons.2 ⟨EC_NotIdeal, (List.forall_mem_cons.2 ⟨EC_TooMany, (List.forall_mem_cons.2 ⟨EC_TooGreat, (List.forall_mem_cons.2 ⟨EC_NotSquarefree, (List.forall_mem_nil _)⟩)⟩)⟩)⟩), (List.forall_mem_cons.2 ⟨(List.forall_mem_cons.2 ⟨(show PySem.W.subIn K (.ref C_NotIdeal) (.ref C_NotIdeal) = some (("NotIdeal" : Str) == "NotIdeal") from by rw [show (("NotIdeal" : Str) == "NotIdeal") = true from by decide]; exact su_NotIdeal_NotIdeal), (List.forall_mem_cons.2 ⟨(show PySem.W.subIn K (.ref C_NotIdeal) (.ref C_TooMany) = some (("NotIdeal" : Str) == "TooMany") from by rw [show (("NotIdeal" : Str) == "TooMany") = false from by decide]; exact su_NotIdeal_TooMany), (List.forall_mem_cons.2 ⟨(show PySem.W.subIn K (.ref C_NotIdeal) (.ref C_TooGreat) = some (("NotIdeal" : Str) == "TooGreat") from by rw [show (("NotIdeal" : Str) == "TooGreat") = false from by decide]; exact su_NotIdeal_TooGreat), (List.forall_mem_cons.2 ⟨(show PySem.W.subIn K (.ref C_NotIdeal) (.ref C_NotSquarefree) = some (("NotIdeal" : Str) == "NotSquarefree") from by rw [show (("NotIdeal" : Str) == "NotSquarefree") = false from by decide]; exact su_NotIdeal_NotSquarefree), (List.forall_mem_nil _)⟩)⟩)⟩)⟩), (List.forall_mem_cons.2 ⟨(List.forall_mem_cons.2 ⟨(show PySem.W.subIn K (.ref C_TooMany) (.ref C_NotIdeal) = some (("TooMany" : Str) == "NotIdeal") from by rw [show (("TooMany" : Str) == "NotIdeal") = false from by decide]; exact su_TooMany_NotIdeal), (List.forall_mem_cons.2 ⟨(show PySem.W.subIn K (.ref C_TooMany) (.ref C_TooMany) = some (("TooMany" : Str) == "TooMany") from by rw [show (("TooMany" : Str) == "TooMany") = true from by decide]; exact su_TooMany_TooMany), (List.forall_mem_cons.2 ⟨(show PySem.W.subIn K (.ref C_TooMany) (.ref C_TooGreat) = some (("TooMany" : Str) == "TooGreat") from by rw [show (("TooMany" : Str) == "TooGreat") = false from by decide]; exact su_TooMany_TooGreat), (List.forall_mem_cons.2 ⟨(show PySem.W.subIn K (.ref C_TooMany) (.ref C_NotSquarefree) = some (("TooMany" : Str) == "NotSquarefree") from by rw [show (("TooMany" : Str) == "NotSquarefree") = false from by decide]; exact su_TooMany_NotSquarefree), (List.forall_mem_nil _)⟩)⟩)⟩)⟩), (List.forall_mem_cons.2 ⟨(List.forall_mem_cons.2 ⟨(show PySem.W.subIn K (.ref C_TooGreat) (.ref C_NotIdeal) = some (("TooGreat" : Str) == "NotIdeal") from by rw [show (("TooGreat" : Str) == "NotIdeal") = false from by decide]; exact su_TooGreat_NotIdeal), (List.forall_mem_cons.2 ⟨(show PySem.W.subIn K (.ref C_TooGreat) (.ref C_TooMany) = some (("TooGreat" : Str) == "TooMany") from by rw [show (("TooGreat" : Str) == "TooMany") = false from by decide]; exact su_TooGreat_TooMany), (List.forall_mem_cons.2 ⟨(show PySem.W.subIn K (.ref C_TooGreat) (.ref C_TooGreat) = some (("TooGreat" : Str) == "TooGreat") from by rw [show (("TooGreat" : Str) == "TooGreat") = true from by decide]; exact su_TooGreat_TooGreat), (List.forall_mem_cons.2 ⟨(show PySem.W.subIn K (.ref C_TooGreat) (.ref C_NotSquarefree) = some (("TooGreat" : Str) == "NotSquarefree") from by rw [show (("TooGreat" : Str) == "NotSquarefree") = false from by decide]; exact su_TooGreat_NotSquarefree), (List.forall_mem_nil _)⟩)⟩)⟩)⟩), (List.forall_mem_cons.2 ⟨(List.forall_mem_cons.2 ⟨(show PySem.W.subIn K (.ref C_NotSquarefree) (.ref C_NotIdeal) = some (("NotSquarefree" : Str) == "NotIdeal") from by rw [show (("NotSquarefree" : Str) == "NotIdeal") = false from by decide]; exact su_NotSquarefree_NotIdeal), (List.forall_mem_cons.2 ⟨(show PySem.W.subIn K (.ref C_NotSquarefree) (.ref C_TooMany) = some (("NotSquarefree" : Str) == "TooMany") from by rw [show (("NotSquarefree" : Str) == "TooMany") = false from by decide]; exact su_NotSquarefree_TooMany), (List.forall_mem_cons.2 ⟨(show PySem.W.subIn K (.ref C_NotSquarefree) (.ref C_TooGreat) = some (("NotSquarefree" : Str) == "TooGreat") from by rw [show (("NotSquarefree" : Str) == "TooGreat") = false from by decide]; exact su_NotSquarefree_TooGreat), (List.forall_mem_cons.2 ⟨(show PySem.W.subIn K (.ref C_NotSquarefree) (.ref C_NotSquarefree) = some (("NotSquarefree" : Str) == "NotSquarefree") from by rw [show (("NotSquarefree" : Str) == "NotSquarefree") = true from by decide]; exact su_NotSquarefree_NotSquarefree), (List.forall_mem_nil _)⟩)⟩)⟩)⟩), (List.forall_mem_nil _)⟩)⟩)⟩)⟩), ⟨C_JointError, PySem.W.mg_of X G a_JointError, ⟨by rw [cl_JointError]; rfl, ga_JointError, gt_JointError, sb_JointError, hd_JointError, ty_JointError, ca_JointError, ob_JointError⟩, (List.forall_mem_cons.2 ⟨su_NotIdeal_JointError, (List.forall_mem_cons.2 ⟨su_TooMany_JointError, (List.forall_mem_cons.2 ⟨su_TooGreat_JointError, (List.forall_mem_cons.2 ⟨su_NotSquarefree_JointError, (List.forall_mem_nil _)⟩)⟩)⟩)⟩)⟩, ⟨gs_, tk_⟩⟩
  have Z_NotSquarefree : XC0 K mg "NotSquarefree" := ⟨C_NotSquarefree, PySem.W.mg_of X G a_NotSquarefree, bi_NotSquarefree, kC_NotSquarefree, sb_NotSquarefree, ty_NotSquarefree, by decide⟩
  have X_TooGreat : XCl l.prog w K mg base "TooGreat" ["limit"] := x_TooGreat ⟨PySem.W.mg_of X G a_TooGreat, ⟨⟨_, _, _, _, _, _, _, _, _, _, _, _, _, _, _, lC_TooGreat, rv_TooGreat⟩, sa_TooGreat, sb_TooGreat, ty_TooGreat, kC_TooGreat⟩, iC_TooGreat, tI_TooGreat, ⟨_, _, _, _, _, rfl⟩, ⟨_, _, _, lI_TooGreat⟩, co_TooGreat, ⟨_, _, _, _, _, _, ld_TooGreat, v2_TooGreat, hf_TooGreat⟩, ⟨_, _, _, le_TooGreat⟩, z_super, opq_, mt_TooGreat, sv_TooGreat, sc_TooGreat⟩ no_TooGreat_limit topS
  have X_TooMany : XCl l.prog w K mg base "TooMany" ["limit"] := x_TooMany ⟨PySem.W.mg_of X G a_TooMany, ⟨⟨_, _, _, _, _, _, _, _, _, _, _, _, _, _, _, lC_TooMany, rv_TooMany⟩, sa_TooMany, sb_TooMany, ty_TooMany, kC_TooMany⟩, iC_TooMany, tI_TooMany, ⟨_, _, _, _, _, rfl⟩, ⟨_, _, _, lI_TooMany⟩, co_TooMany, ⟨_, _, _, _, _, _, ld_TooMany, v2_TooMany, hf_TooMany⟩, ⟨_, _, _, le_TooMany⟩, z_super, opq_, mt_TooMany, sv_TooMany, sc_TooMany⟩ no_TooMany_limit topS
  have C_divides : Cl l.prog w K mg base "divides" 1 sp_divides := o_divides T  (fun_mk (st := s_divides) l_divides cc_divides k_divides) (PySem.W.mg_of X G a_divides) len_divides sem_divides
  have C_least_ones : Cl l.prog w K mg base "least_ones" 2 sp_least_ones := o_least_ones T C_divides (fun_mk (st := s_least_ones) l_least_ones cc_least_ones k_least_ones) (PySem.W.mg_of X G a_least_ones) len_least_ones sem_least_ones
  have C_made_x : ClX l.prog w K mg base "made" 3 sp_made_x := o_made_x T C_least_ones X_TooMany X_TooGreat (fun_mk (st := s_made_x) l_made_x cc_made_x k_made_x) (PySem.W.mg_of X G a_made_x) len_made_x sem_made_x
  have C_product_of_vertices : Cl l.prog w K mg base "product_of_vertices" 1 sp_product_of_vertices := o_product_of_vertices T  (fun_mk (st := s_product_of_vertices) l_product_of_vertices cc_product_of_vertices k_product_of_vertices) (PySem.W.mg_of X G a_product_of_vertices) len_product_of_vertices sem_product_of_vertices
  have C_all_faces : Cl l.prog w K mg base "all_faces" 1 sp_all_faces := o_all_faces T  (fun_mk (st := s_all_faces) l_all_faces cc_all_faces k_all_faces) (PySem.W.mg_of X G a_all_faces) len_all_faces sem_all_faces
  have C_borders : Cl l.prog w K mg base "borders" 1 sp_borders := o_borders T  (fun_mk (st := s_borders) l_borders cc_borders k_borders) (PySem.W.mg_of X G a_borders) len_borders sem_borders
  have C_least_lacking : Cl l.prog w K mg base "least_lacking" 2 sp_least_lacking := o_least_lacking T C_all_faces C_borders (fun_mk (st := s_least_lacking) l_least_lacking cc_least_lacking k_least_lacking) (PySem.W.mg_of X G a_least_lacking) len_least_lacking sem_least_lacking
  have C_ideal_of_complex_x : ClX l.prog w K mg base "ideal_of_complex" 4 sp_ideal_of_complex_x := o_ideal_of_complex_x T C_least_lacking C_product_of_vertices C_made_x (fun_mk (st := s_ideal_of_complex_x) l_ideal_of_complex_x cc_ideal_of_complex_x k_ideal_of_complex_x) (PySem.W.mg_of X G a_ideal_of_complex_x) len_ideal_of_complex_x sem_ideal_of_complex_x
  have C_law_limit_c : ClT l.prog w K mg base "_law_limit" 2 rd_law_limit_c := o_law_limit_c T  ER (fun_mk (st := s_law_limit_c) l_law_limit_c cc_law_limit_c k_law_limit_c) (PySem.W.mg_of X G a_law_limit_c)
  have C_support_of : Cl l.prog w K mg base "support_of" 1 sp_support_of := o_support_of T  (fun_mk (st := s_support_of) l_support_of cc_support_of k_support_of) (PySem.W.mg_of X G a_support_of) len_support_of sem_support_of
  have C_is_inside : Cl l.prog w K mg base "is_inside" 1 sp_is_inside := o_is_inside T  (fun_mk (st := s_is_inside) l_is_inside cc_is_inside k_is_inside) (PySem.W.mg_of X G a_is_inside) len_is_inside sem_is_inside
  have C_complex_of_ideal_x : ClX l.prog w K mg base "complex_of_ideal" 3 sp_complex_of_ideal_x := o_complex_of_ideal_x T C_support_of C_is_inside Z_NotSquarefree (fun_mk (st := s_complex_of_ideal_x) l_complex_of_ideal_x cc_complex_of_ideal_x k_complex_of_ideal_x) (PySem.W.mg_of X G a_complex_of_ideal_x) len_complex_of_ideal_x sem_complex_of_ideal_x
  have C_law_draw : Cl l.prog w K mg base "_law_draw" 1 sp_law_draw := o_law_draw T  (fun_mk (st := s_law_draw) l_law_draw cc_law_draw k_law_draw) (PySem.W.mg_of X G a_law_draw) len_law_draw sem_law_draw
  have C_law_of : Cl l.prog w K mg base "_law_of" 2 sp_law_of := o_law_of T C_law_draw (fun_mk (st := s_law_of) l_law_of cc_law_of k_law_of) (PySem.W.mg_of X G a_law_of) len_law_of sem_law_of
  have C_law_inside : Cl l.prog w K mg base "_law_inside" 1 sp_law_inside := o_law_inside T  (fun_mk (st := s_law_inside) l_law_inside cc_law_inside k_law_inside) (PySem.W.mg_of X G a_law_inside) len_law_inside sem_law_inside
  have C_law_facets : Cl l.prog w K mg base "_law_facets" 2 sp_law_facets := o_law_facets T C_law_inside (fun_mk (st := s_law_facets) l_law_facets cc_law_facets k_law_facets) (PySem.W.mg_of X G a_law_facets) len_law_facets sem_law_facets
  have C_law_drawn_set : Cl l.prog w K mg base "_law_drawn_set" 2 sp_law_drawn_set := o_law_drawn_set T C_law_draw (fun_mk (st := s_law_drawn_set) l_law_drawn_set cc_law_drawn_set k_law_drawn_set) (PySem.W.mg_of X G a_law_drawn_set) len_law_drawn_set sem_law_drawn_set
  have C_law_complex : Cl l.prog w K mg base "_law_complex" 3 sp_law_complex := o_law_complex T C_law_draw C_law_of C_law_drawn_set C_law_facets (fun_mk (st := s_law_complex) l_law_complex cc_law_complex k_law_complex) (PySem.W.mg_of X G a_law_complex) len_law_complex sem_law_complex
  have C_law_monomial : Cl l.prog w K mg base "_law_monomial" 2 sp_law_monomial := o_law_monomial T C_law_draw (fun_mk (st := s_law_monomial) l_law_monomial cc_law_monomial k_law_monomial) (PySem.W.mg_of X G a_law_monomial) len_law_monomial sem_law_monomial
  have C_law_divides : Cl l.prog w K mg base "_law_divides" 1 sp_law_divides := o_law_divides T  (fun_mk (st := s_law_divides) l_law_divides cc_law_divides k_law_divides) (PySem.W.mg_of X G a_law_divides) len_law_divides sem_law_divides
  have C_law_least : Cl l.prog w K mg base "_law_least" 2 sp_law_least := o_law_least T C_law_divides (fun_mk (st := s_law_least) l_law_least cc_law_least k_law_least) (PySem.W.mg_of X G a_law_least) len_law_least sem_law_least
  have C_law_ideal : Cl l.prog w K mg base "_law_ideal" 3 sp_law_ideal := o_law_ideal T C_law_draw C_law_monomial C_law_least (fun_mk (st := s_law_ideal) l_law_ideal cc_law_ideal k_law_ideal) (PySem.W.mg_of X G a_law_ideal) len_law_ideal sem_law_ideal
  have C_law_squarefree : Cl l.prog w K mg base "_law_squarefree" 4 sp_law_squarefree := o_law_squarefree T C_law_ideal (fun_mk (st := s_law_squarefree) l_law_squarefree cc_law_squarefree k_law_squarefree) (PySem.W.mg_of X G a_law_squarefree) len_law_squarefree sem_law_squarefree
  have C_law_subsets : Cl l.prog w K mg base "_law_subsets" 1 sp_law_subsets := o_law_subsets T  (fun_mk (st := s_law_subsets) l_law_subsets cc_law_subsets k_law_subsets) (PySem.W.mg_of X G a_law_subsets) len_law_subsets sem_law_subsets
  have C_law_in : Cl l.prog w K mg base "_law_in" 2 sp_law_in := o_law_in T C_law_divides (fun_mk (st := s_law_in) l_law_in cc_law_in k_law_in) (PySem.W.mg_of X G a_law_in) len_law_in sem_law_in
  have C_law_monomial_of : Cl l.prog w K mg base "_law_monomial_of" 1 sp_law_monomial_of := o_law_monomial_of T  (fun_mk (st := s_law_monomial_of) l_law_monomial_of cc_law_monomial_of k_law_monomial_of) (PySem.W.mg_of X G a_law_monomial_of) len_law_monomial_of sem_law_monomial_of
  have C_law_outside : Cl l.prog w K mg base "_law_outside" 3 sp_law_outside := o_law_outside T C_law_subsets C_law_monomial_of C_law_in C_law_facets (fun_mk (st := s_law_outside) l_law_outside cc_law_outside k_law_outside) (PySem.W.mg_of X G a_law_outside) len_law_outside sem_law_outside
  have C_law_refused : Cl l.prog w K mg base "_law_refused" 4 sp_law_refused := o_law_refused T C_complex_of_ideal_x ER (fun_mk (st := s_law_refused) l_law_refused cc_law_refused k_law_refused) (PySem.W.mg_of X G a_law_refused) len_law_refused sem_law_refused
  have C_is_integer : Cl l.prog w K mg base "is_integer" 1 sp_is_integer := o_is_integer T  (fun_mk (st := s_is_integer) l_is_integer cc_is_integer k_is_integer) (PySem.W.mg_of X G a_is_integer) len_is_integer sem_is_integer
  have C_has_form : Cl l.prog w K mg base "has_form" 2 sp_has_form := o_has_form T C_is_integer (fun_mk (st := s_has_form) l_has_form cc_has_form k_has_form) (PySem.W.mg_of X G a_has_form) len_has_form sem_has_form
  have C_is_monomial : Cl l.prog w K mg base "is_monomial" 2 sp_is_monomial := o_is_monomial T C_is_integer (fun_mk (st := s_is_monomial) l_is_monomial cc_is_monomial k_is_monomial) (PySem.W.mg_of X G a_is_monomial) len_is_monomial sem_is_monomial
  have C_breach : Cl l.prog w K mg base "breach" 3 sp_breach := o_breach T C_has_form C_is_monomial C_divides (fun_mk (st := s_breach) l_breach cc_breach k_breach) (PySem.W.mg_of X G a_breach) len_breach sem_breach
  have C_check_ideal : Cl l.prog w K mg base "check_ideal" 4 sp_check_ideal := o_check_ideal T C_breach (fun_mk (st := s_check_ideal) l_check_ideal cc_check_ideal k_check_ideal) (PySem.W.mg_of X G a_check_ideal) len_check_ideal sem_check_ideal
  have C_law_faces : Cl l.prog w K mg base "_law_faces" 2 sp_law_faces := o_law_faces T C_law_subsets (fun_mk (st := s_law_faces) l_law_faces cc_law_faces k_law_faces) (PySem.W.mg_of X G a_law_faces) len_law_faces sem_law_faces
  have C_law_lacking : Cl l.prog w K mg base "_law_lacking" 3 sp_law_lacking := o_law_lacking T C_law_faces C_law_subsets C_law_inside (fun_mk (st := s_law_lacking) l_law_lacking cc_law_lacking k_law_lacking) (PySem.W.mg_of X G a_law_lacking) len_law_lacking sem_law_lacking
  have C_law_right : ClG l.prog w K mg base "_law_right" 5 sp_law_right := o_law_right T C_law_draw C_law_complex C_law_lacking C_law_monomial_of C_ideal_of_complex_x C_check_ideal C_complex_of_ideal_x C_law_squarefree C_law_outside C_law_least C_law_refused (fun_mk (st := s_law_right) l_law_right cc_law_right k_law_right) (PySem.W.mg_of X G a_law_right) len_law_right sem_law_right
  have C_law_begun : Cl l.prog w K mg base "_law_begun" 1 sp_law_begun := o_law_begun T  (fun_mk (st := s_law_begun) l_law_begun cc_law_begun k_law_begun) (PySem.W.mg_of X G a_law_begun) len_law_begun sem_law_begun
  exact fnG_okM (Pt := Pt) ⟨_, _, _, _, _, _, _, _, rfl, l_law, cc_law⟩ S_law B_ rfl len_law (fun _ _ _ _ => rfl) (d_law T C_ideal_of_complex_x C_complex_of_ideal_x C_law_limit_c C_law_begun C_law_right) sem_law
theorem walk {l : PySem.W.OpenLaw} {q : Program} {loose : List Str} {XP : (Str → Option Value) → Heap → Prop} {YP : World → Heap → Prop} {d : DefRec} {K : Params → PySem.W.Frag} (hn : l.most = some 63) (hdf : d.params.defaults = [])
    (hY : ∀ (w : World) (h : Heap), YP w h → (K w.params).In h)
    (F : ∀ (w : World) (mg : Str → Option Value) (fa : Addr) (h : Heap), YP w h → (K w.params).In h → h.Ns mainGlobals mg → mg d.name = some (.ref fa) → L2.LawAtG l w (K w.params) 7 63 "script" mg fa h) :
    PySem.W.WalkO q loose XP YP l.row.toRowW d [] (fun f vs => PySem.call f vs) :=
  L2.walk_ofTG hn (by decide) hdf ⟨rfl, by decide, by decide⟩ hY F
end GD
open PySem PySem.W PyProof.Rows in
set_option maxRecDepth 100000 in
set_option maxHeartbeats 0 in
theorem PySem.Challenge.cw_jointneeds_k31_ideals_and_complexes_holds : PySem.Challenge.rw_jointneeds_k31_ideals_and_complexes.Holds := by
  refine head_k31 ?_
  k_fill
  refine GD.walk (l := PySem.Challenge.rw_jointneeds_k31_ideals_and_complexes) rfl rfl (fun w h Y => PySem.W.km_in_of Y) ?F
  case F =>
    intro w mg fa h YY KX G hmg
    refine' GD.all_mk KX G hmg ?a_divides ?l_divides ?cc_divides ?k_divides ?a_least_ones ?l_least_ones ?cc_least_ones ?k_least_ones ?a_made_x ?l_made_x ?cc_made_x ?k_made_x ?a_product_of_vertices ?l_product_of_vertices ?cc_product_of_vertices ?k_product_of_vertices ?a_all_faces ?l_all_faces ?cc_all_faces ?k_all_faces ?a_borders ?l_borders ?cc_borders ?k_borders ?a_least_lacking ?l_least_lacking ?cc_least_lacking ?k_least_lacking ?a_ideal_of_complex_x ?l_ideal_of_complex_x ?cc_ideal_of_complex_x ?k_ideal_of_complex_x ?a_law_limit_c ?l_law_limit_c ?cc_law_limit_c ?k_law_limit_c ?a_support_of ?l_support_of ?cc_support_of ?k_support_of ?a_is_inside ?l_is_inside ?cc_is_inside ?k_is_inside ?a_complex_of_ideal_x ?l_complex_of_ideal_x ?cc_complex_of_ideal_x ?k_complex_of_ideal_x ?a_law_draw ?l_law_draw ?cc_law_draw ?k_law_draw ?a_law_of ?l_law_of ?cc_law_of ?k_law_of ?a_law_inside ?l_law_inside ?cc_law_inside ?k_law_inside ?a_law_facets ?l_law_facets ?cc_law_facets ?k_law_facets ?a_law_drawn_set ?l_law_drawn_set ?cc_law_drawn_set ?k_law_drawn_set ?a_law_complex ?l_law_complex ?cc_law_complex ?k_law_complex ?a_law_monomial ?l_law_monomial ?cc_law_monomial ?k_law_monomial ?a_law_divides ?l_law_divides ?cc_law_divides ?k_law_divides ?a_law_least ?l_law_least ?cc_law_least ?k_law_least ?a_law_ideal ?l_law_ideal ?cc_law_ideal ?k_law_ideal ?a_law_squarefree ?l_law_squarefree ?cc_law_squarefree ?k_law_squarefree ?a_law_subsets ?l_law_subsets ?cc_law_subsets ?k_law_subsets ?a_law_in ?l_law_in ?cc_law_in ?k_law_in ?a_law_monomial_of ?l_law_monomial_of ?cc_law_monomial_of ?k_law_monomial_of ?a_law_outside ?l_law_outside ?cc_law_outside ?k_law_outside ?a_law_refused ?l_law_refused ?cc_law_refused ?k_law_refused ?a_is_integer ?l_is_integer ?cc_is_integer ?k_is_integer ?a_has_form ?l_has_form ?cc_has_form ?k_has_form ?a_is_monomial ?l_is_monomial ?cc_is_monomial ?k_is_monomial ?a_breach ?l_breach ?cc_breach ?k_breach ?a_check_ideal ?l_check_ideal ?cc_check_ideal ?k_check_ideal ?a_law_faces ?l_law_faces ?cc_law_faces ?k_law_faces ?a_law_lacking ?l_law_lacking ?cc_law_lacking ?k_law_lacking ?a_law_right ?l_law_right ?cc_law_right ?k_law_right ?a_law_begun ?l_law_begun ?cc_law_begun ?k_law_begun ?a_law ?l_law ?cc_law ?k_law ?lc_ ?v11_ ?hd_ ?nl_ (PySem.W.km_tabs_of YY) ?ts_ ?z_all ?z_any ?z_bool ?z_enumerate ?z_int ?z_isinstance ?z_len ?z_list ?z_max ?z_min ?z_range ?z_repr ?z_set ?z_sorted ?z_sum ?z_tuple ?z_zip ?y_MOST_EXPONENT ?y_MOST_GENERATORS ?y_MOST_VARIABLES ?x_combinations ?gs_ ?tk_ ?z_super ?opq_ ?topS ?a_NotIdeal ?cl_NotIdeal ?ga_NotIdeal ?gt_NotIdeal ?sb_NotIdeal ?hd_NotIdeal ?ty_NotIdeal ?ca_NotIdeal ?ob_NotIdeal ?a_TooMany ?cl_TooMany ?ga_TooMany ?gt_TooMany ?sb_TooMany ?hd_TooMany ?ty_TooMany ?ca_TooMany ?ob_TooMany ?a_TooGreat ?cl_TooGreat ?ga_TooGreat ?gt_TooGreat ?sb_TooGreat ?hd_TooGreat ?ty_TooGreat ?ca_TooGreat ?ob_TooGreat ?a_NotSquarefree ?cl_NotSquarefree ?ga_NotSquarefree ?gt_NotSquarefree ?sb_NotSquarefree ?hd_NotSquarefree ?ty_NotSquarefree ?ca_NotSquarefree ?ob_NotSquarefree ?a_JointError ?cl_JointError ?ga_JointError ?gt_JointError ?sb_JointError ?hd_JointError ?ty_JointError ?ca_JointError ?ob_JointError ?no_NotIdeal_limit ?no_NotIdeal_place ?no_NotIdeal_rule ?su_NotIdeal_NotIdeal ?su_NotIdeal_TooMany ?su_NotIdeal_TooGreat ?su_NotIdeal_NotSquarefree ?su_NotIdeal_JointError ?no_TooMany_limit ?no_TooMany_place ?no_TooMany_rule ?su_TooMany_NotIdeal ?su_TooMany_TooMany ?su_TooMany_TooGreat ?su_TooMany_NotSquarefree ?su_TooMany_JointError ?no_TooGreat_limit ?no_TooGreat_place ?no_TooGreat_rule ?su_TooGreat_NotIdeal ?su_TooGreat_TooMany ?su_TooGreat_TooGreat ?su_TooGreat_NotSquarefree ?su_TooGreat_JointError ?no_NotSquarefree_limit ?no_NotSquarefree_place ?no_NotSquarefree_rule ?su_NotSquarefree_NotIdeal ?su_NotSquarefree_TooMany ?su_NotSquarefree_TooGreat ?su_NotSquarefree_NotSquarefree ?su_NotSquarefree_JointError ?bi_NotSquarefree ?kC_NotSquarefree ?lC_TooGreat ?rv_TooGreat ?sa_TooGreat ?kC_TooGreat ?iC_TooGreat ?tI_TooGreat ?lI_TooGreat ?co_TooGreat ?ld_TooGreat ?v2_TooGreat ?hf_TooGreat ?le_TooGreat ?mt_TooGreat ?sv_TooGreat ?sc_TooGreat ?lC_TooMany ?rv_TooMany ?sa_TooMany ?kC_TooMany ?iC_TooMany ?tI_TooMany ?lI_TooMany ?co_TooMany ?ld_TooMany ?v2_TooMany ?hf_TooMany ?le_TooMany ?mt_TooMany ?sv_TooMany ?sc_TooMany
    (case a_divides => k_is)
    (case l_divides => k_is)
    (case cc_divides => k_is)
    (case k_divides => k_is)
    (case a_least_ones => k_is)
    (case l_least_ones => k_is)
    (case cc_least_ones => k_is)
    (case k_least_ones => k_is)
    (case a_made_x => k_is)
    (case l_made_x => k_is)
    (case cc_made_x => k_is)
    (case k_made_x => k_is)
    (case a_product_of_vertices => k_is)
    (case l_product_of_vertices => k_is)
    (case cc_product_of_vertices => k_is)
    (case k_product_of_vertices => k_is)
    (case a_all_faces => k_is)
    (case l_all_faces => k_is)
    (case cc_all_faces => k_is)
    (case k_all_faces => k_is)
    (case a_borders => k_is)
    (case l_borders => k_is)
    (case cc_borders => k_is)
    (case k_borders => k_is)
    (case a_least_lacking => k_is)
    (case l_least_lacking => k_is)
    (case cc_least_lacking => k_is)
    (case k_least_lacking => k_is)
    (case a_ideal_of_complex_x => k_is)
    (case l_ideal_of_complex_x => k_is)
    (case cc_ideal_of_complex_x => k_is)
    (case k_ideal_of_complex_x => k_is)
    (case a_law_limit_c => k_is)
    (case l_law_limit_c => k_is)
    (case cc_law_limit_c => k_is)
    (case k_law_limit_c => k_is)
    (case a_support_of => k_is)
    (case l_support_of => k_is)
    (case cc_support_of => k_is)
    (case k_support_of => k_is)
    (case a_is_inside => k_is)
    (case l_is_inside => k_is)
    (case cc_is_inside => k_is)
    (case k_is_inside => k_is)
    (case a_complex_of_ideal_x => k_is)
    (case l_complex_of_ideal_x => k_is)
    (case cc_complex_of_ideal_x => k_is)
    (case k_complex_of_ideal_x => k_is)
    (case a_law_draw => k_is)
    (case l_law_draw => k_is)
    (case cc_law_draw => k_is)
    (case k_law_draw => k_is)
    (case a_law_of => k_is)
    (case l_law_of => k_is)
    (case cc_law_of => k_is)
    (case k_law_of => k_is)
    (case a_law_inside => k_is)
    (case l_law_inside => k_is)
    (case cc_law_inside => k_is)
    (case k_law_inside => k_is)
    (case a_law_facets => k_is)
    (case l_law_facets => k_is)
    (case cc_law_facets => k_is)
    (case k_law_facets => k_is)
    (case a_law_drawn_set => k_is)
    (case l_law_drawn_set => k_is)
    (case cc_law_drawn_set => k_is)
    (case k_law_drawn_set => k_is)
    (case a_law_complex => k_is)
    (case l_law_complex => k_is)
    (case cc_law_complex => k_is)
    (case k_law_complex => k_is)
    (case a_law_monomial => k_is)
    (case l_law_monomial => k_is)
    (case cc_law_monomial => k_is)
    (case k_law_monomial => k_is)
    (case a_law_divides => k_is)
    (case l_law_divides => k_is)
    (case cc_law_divides => k_is)
    (case k_law_divides => k_is)
    (case a_law_least => k_is)
    (case l_law_least => k_is)
    (case cc_law_least => k_is)
    (case k_law_least => k_is)
    (case a_law_ideal => k_is)
    (case l_law_ideal => k_is)
    (case cc_law_ideal => k_is)
    (case k_law_ideal => k_is)
    (case a_law_squarefree => k_is)
    (case l_law_squarefree => k_is)
    (case cc_law_squarefree => k_is)
    (case k_law_squarefree => k_is)
    (case a_law_subsets => k_is)
    (case l_law_subsets => k_is)
    (case cc_law_subsets => k_is)
    (case k_law_subsets => k_is)
    (case a_law_in => k_is)
    (case l_law_in => k_is)
    (case cc_law_in => k_is)
    (case k_law_in => k_is)
    (case a_law_monomial_of => k_is)
    (case l_law_monomial_of => k_is)
    (case cc_law_monomial_of => k_is)
    (case k_law_monomial_of => k_is)
    (case a_law_outside => k_is)
    (case l_law_outside => k_is)
    (case cc_law_outside => k_is)
    (case k_law_outside => k_is)
    (case a_law_refused => k_is)
    (case l_law_refused => k_is)
    (case cc_law_refused => k_is)
    (case k_law_refused => k_is)
    (case a_is_integer => k_is)
    (case l_is_integer => k_is)
    (case cc_is_integer => k_is)
    (case k_is_integer => k_is)
    (case a_has_form => k_is)
    (case l_has_form => k_is)
    (case cc_has_form => k_is)
    (case k_has_form => k_is)
    (case a_is_monomial => k_is)
    (case l_is_monomial => k_is)
    (case cc_is_monomial => k_is)
    (case k_is_monomial => k_is)
    (case a_breach => k_is)
    (case l_breach => k_is)
    (case cc_breach => k_is)
    (case k_breach => k_is)
    (case a_check_ideal => k_is)
    (case l_check_ideal => k_is)
    (case cc_check_ideal => k_is)
    (case k_check_ideal => k_is)
    (case a_law_faces => k_is)
    (case l_law_faces => k_is)
    (case cc_law_faces => k_is)
    (case k_law_faces => k_is)
    (case a_law_lacking => k_is)
    (case l_law_lacking => k_is)
    (case cc_law_lacking => k_is)
    (case k_law_lacking => k_is)
    (case a_law_right => k_is)
    (case l_law_right => k_is)
    (case cc_law_right => k_is)
    (case k_law_right => k_is)
    (case a_law_begun => k_is)
    (case l_law_begun => k_is)
    (case cc_law_begun => k_is)
    (case k_law_begun => k_is)
    (case a_law => k_is)
    (case l_law => k_is)
    (case cc_law => k_is)
    (case k_law => k_is)
    (case lc_ => k_is)
    (case v11_ => rfl)
    (case hd_ => kernel_rfl)
    (case nl_ => kernel_rfl)
    (case ts_ => simp)
    (case z_all => k_is)
    (case z_any => k_is)
    (case z_bool => k_is)
    (case z_enumerate => k_is)
    (case z_int => k_is)
    (case z_isinstance => k_is)
    (case z_len => k_is)
    (case z_list => k_is)
    (case z_max => k_is)
    (case z_min => k_is)
    (case z_range => k_is)
    (case z_repr => k_is)
    (case z_set => k_is)
    (case z_sorted => k_is)
    (case z_sum => k_is)
    (case z_tuple => k_is)
    (case z_zip => k_is)
    (case y_MOST_EXPONENT => k_is)
    (case y_MOST_GENERATORS => k_is)
    (case y_MOST_VARIABLES => k_is)
    (case x_combinations => k_is)
    (case gs_ => k_is)
    (case tk_ => k_is)
    (case z_super => k_is)
    (case opq_ => k_is)
    (case topS => kernel_rfl)
    (case a_NotIdeal => k_is)
    (case cl_NotIdeal => k_is)
    (case ga_NotIdeal => k_is)
    (case gt_NotIdeal => k_is)
    (case sb_NotIdeal => k_is)
    (case hd_NotIdeal => k_is)
    (case ty_NotIdeal => k_is)
    (case ca_NotIdeal => k_is)
    (case ob_NotIdeal => k_is)
    (case a_TooMany => k_is)
    (case cl_TooMany => k_is)
    (case ga_TooMany => k_is)
    (case gt_TooMany => k_is)
    (case sb_TooMany => k_is)
    (case hd_TooMany => k_is)
    (case ty_TooMany => k_is)
    (case ca_TooMany => k_is)
    (case ob_TooMany => k_is)
    (case a_TooGreat => k_is)
    (case cl_TooGreat => k_is)
    (case ga_TooGreat => k_is)
    (case gt_TooGreat => k_is)
    (case sb_TooGreat => k_is)
    (case hd_TooGreat => k_is)
    (case ty_TooGreat => k_is)
    (case ca_TooGreat => k_is)
    (case ob_TooGreat => k_is)
    (case a_NotSquarefree => k_is)
    (case cl_NotSquarefree => k_is)
    (case ga_NotSquarefree => k_is)
    (case gt_NotSquarefree => k_is)
    (case sb_NotSquarefree => k_is)
    (case hd_NotSquarefree => k_is)
    (case ty_NotSquarefree => k_is)
    (case ca_NotSquarefree => k_is)
    (case ob_NotSquarefree => k_is)
    (case a_JointError => k_is)
    (case cl_JointError => k_is)
    (case ga_JointError => k_is)
    (case gt_JointError => k_is)
    (case sb_JointError => k_is)
    (case hd_JointError => k_is)
    (case ty_JointError => k_is)
    (case ca_JointError => k_is)
    (case ob_JointError => k_is)
    (case no_NotIdeal_limit => k_is)
    (case no_NotIdeal_place => k_is)
    (case no_NotIdeal_rule => k_is)
    (case su_NotIdeal_NotIdeal => k_is)
    (case su_NotIdeal_TooMany => k_is)
    (case su_NotIdeal_TooGreat => k_is)
    (case su_NotIdeal_NotSquarefree => k_is)
    (case su_NotIdeal_JointError => k_is)
    (case no_TooMany_limit => k_is)
    (case no_TooMany_place => k_is)
    (case no_TooMany_rule => k_is)
    (case su_TooMany_NotIdeal => k_is)
    (case su_TooMany_TooMany => k_is)
    (case su_TooMany_TooGreat => k_is)
    (case su_TooMany_NotSquarefree => k_is)
    (case su_TooMany_JointError => k_is)
    (case no_TooGreat_limit => k_is)
    (case no_TooGreat_place => k_is)
    (case no_TooGreat_rule => k_is)
    (case su_TooGreat_NotIdeal => k_is)
    (case su_TooGreat_TooMany => k_is)
    (case su_TooGreat_TooGreat => k_is)
    (case su_TooGreat_NotSquarefree => k_is)
    (case su_TooGreat_JointError => k_is)
    (case no_NotSquarefree_limit => k_is)
    (case no_NotSquarefree_place => k_is)
    (case no_NotSquarefree_rule => k_is)
    (case su_NotSquarefree_NotIdeal => k_is)
    (case su_NotSquarefree_TooMany => k_is)
    (case su_NotSquarefree_TooGreat => k_is)
    (case su_NotSquarefree_NotSquarefree => k_is)
    (case su_NotSquarefree_JointError => k_is)
    (case bi_NotSquarefree => first | k_is | kx_is | kernel_rfl)
    (case kC_NotSquarefree => k_is)
    (case lC_TooGreat => k_is)
    (case rv_TooGreat => rfl)
    (case sa_TooGreat => k_is)
    (case kC_TooGreat => k_is)
    (case iC_TooGreat => k_is)
    (case tI_TooGreat => k_is)
    (case lI_TooGreat => k_is)
    (case co_TooGreat => k_is)
    (case ld_TooGreat => k_is)
    (case v2_TooGreat => rfl)
    (case hf_TooGreat => kernel_rfl)
    (case le_TooGreat => k_is)
    (case mt_TooGreat => ks_is)
    (case sv_TooGreat => k_is)
    (case sc_TooGreat => k_is)
    (case lC_TooMany => k_is)
    (case rv_TooMany => rfl)
    (case sa_TooMany => k_is)
    (case kC_TooMany => k_is)
    (case iC_TooMany => k_is)
    (case tI_TooMany => k_is)
    (case lI_TooMany => k_is)
    (case co_TooMany => k_is)
    (case ld_TooMany => k_is)
    (case v2_TooMany => rfl)
    (case hf_TooMany => kernel_rfl)
    (case le_TooMany => k_is)
    (case mt_TooMany => ks_is)
    (case sv_TooMany => k_is)
    (case sc_TooMany => k_is)
end
