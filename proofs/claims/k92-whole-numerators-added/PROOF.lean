import PyProof.Rows.All
import Wide.All
import OpenK.AllK
import Wide.FinOn
import HandS.ForMost
import HandS.Wide
import HandS.TupMul
import HandS.IsInst
import HandS.Deep
import HandS.Flow
import HandS.Style
import HandS.Lambda
import HandS.TupAny
import HandS.Zip
import KE.GoesMore
import KE.KTupSum
import HandS.TupSets
import KE.DatumOrd
import HandS.Gcd
import KE.KMathGC
import HandS.Conv
import HandS.Strs
import KE.SortData
import KE.LtData
import KE.LtSeq
import PyProof.P3In
import PyProof.Rows.TupDisplay
import HandS.DictTup
import HandS.Iter
import HandS.SortKw
import PyProof.Rows.NestShow
import HandS.SetFor
import HandS.Set
import HandS.TupLe
import KE.KSortKeySt
import PyProof.ZipIter
import PyProof.CallType
import PyProof.Walk
import PyProof.WalkLemmas
import PyProof.RangeIter
import PyProof.RulesTry
import HandS.RepeatKit
import HandS.GenList
import HandS.ExcValue
import HandS.ExcOwn
import KE.KRevSl
import HandS.Base
import HandS.Call
import HandS.List
import KE.KSuper
import KE.KExcSuper
import HandS.Exc
import HandS.ExcInit
import HandS.Words
import HandS.WordsExc
import KE.KExcIs
import HandS.ExcField
import HandS.ExcIs
import HandS.EndTab
import KE.KDictItemsList
import KE.KEqDict
import KE.KDictWalk
import HandS.DictEq
import PySem.Challenge.RW_jointneeds_k92_whole_numerators_added
section
set_option Elab.async false
set_option linter.all false
set_option pp.maxSteps 200
set_option maxRecDepth 100000
set_option maxHeartbeats 0
open PySem PySem.W PyProof.Rows
open_top head_k92 for PySem.Challenge.rw_jointneeds_k92_whole_numerators_added
end
section
set_option Elab.async false
set_option linter.all false
set_option maxRecDepth 100000
set_option maxHeartbeats 2000000
namespace DL
open PySem L2 PyProof.Rows
inductive DV where
  | d (x : PyData)
  | r (a : Addr)
  | t (xs : List DV)
inductive MO where
  | lst (xs : List DV)
  | dK (kvs : List (Key × DV))
  | dT (kvs : List (List Key × DV))
  | ins (C : Addr) (fs : List (Str × DV))
  | lk (o : Obj) (ws : List (List Key × V)) (kvs : List (List Key × DV))
  | xd (fs : List (Str × DV))
abbrev Sto := Addr → Option MO
abbrev Env := List (Option DV)
def up (s : Sto) (a : Addr) (m : MO) : Sto := fun b => if b = a then some m else s b
theorem up_same {s : Sto} {a : Addr} {m : MO} : up s a m a = some m := if_pos rfl
theorem up_ne {s : Sto} {a b : Addr} {m : MO} (h : b ≠ a) : up s a m b = s b := if_neg h
/-- no table of code objects -/
abbrev NoTb (o : HO) : Prop := ∀ ps, o ≠ .tbl ps
theorem tb_or (o : HO) : (∃ ps, o = .tbl ps) ∨ NoTb o := by
  by_cases h : ∃ ps, o = .tbl ps
  · exact .inl h
  · exact .inr fun ps e => h ⟨ps, e⟩
structure Step (F H : Hp) (st : Sto) (F' H' : Hp) (st' : Sto) : Prop where
  ex : ∀ a o, F a = some o → F' a = some o
  pres : ∀ a o, H a = some o → NoTb o → st a = none → H' a = some o ∧ st' a = none
  fnew : ∀ a o, F' a = some o → F a ≠ none ∨ H a = none ∨ st a ≠ none ∨ (∃ ts, H a = some (.tup ts)) ∨ ∃ ps, H a = some (.tbl ps)
theorem Step.of {F H F' H' : Hp} {st st' : Sto} (ex : ∀ a o, F a = some o → F' a = some o) (pres : ∀ a o, H a = some o → st a = none → H' a = some o ∧ st' a = none) (fnew : ∀ a o, F' a = some o → F a ≠ none ∨ H a = none ∨ st a ≠ none ∨ ∃ ts, H a = some (.tup ts)) : Step F H st F' H' st' :=
  ⟨ex, fun a o h _ k => pres a o h k, fun a o h => by
    rcases fnew a o h with z | z | z | z
    · exact .inl z
    · exact .inr (.inl z)
    · exact .inr (.inr (.inl z))
    · exact .inr (.inr (.inr (.inl z)))⟩
theorem Step.refl (F H : Hp) (st : Sto) : Step F H st F H st := Step.of (fun _ _ h => h) (fun _ _ h k => ⟨h, k⟩) (fun a o h => .inl (by rw [h]; exact fun q => nomatch q))
theorem Step.trans {F H : Hp} {st : Sto} {F1 H1 : Hp} {st1 : Sto} {F2 H2 : Hp} {st2 : Sto} (a : Step F H st F1 H1 st1) (b : Step F1 H1 st1 F2 H2 st2) : Step F H st F2 H2 st2 where
  ex := fun x o h => b.ex x o (a.ex x o h)
  pres := fun x o h n k => let ⟨h1, k1⟩ := a.pres x o h n k; b.pres x o h1 n k1
  fnew := fun x o h => by
    cases e : H x with
    | none => exact .inr (.inl rfl)
    | some u =>
      rcases tb_or u with ⟨ps, rfl⟩ | nt
      · exact .inr (.inr (.inr (.inr ⟨ps, rfl⟩)))
      cases e2 : st x with
      | some m => exact .inr (.inr (.inl fun z => nomatch z))
      | none =>
        obtain ⟨h1, k1⟩ := a.pres x u e nt e2
        rcases b.fnew x o h with q | q | q | ⟨ts, q⟩ | ⟨ps, q⟩
        · cases e1 : F1 x with
          | none => exact absurd e1 q
          | some u1 =>
            rcases a.fnew x u1 e1 with z | z | z | ⟨ts, z⟩ | ⟨ps, z⟩
            · exact .inl z
            · rw [e] at z; cases z
            · exact absurd e2 z
            · rw [e] at z; cases z; exact .inr (.inr (.inr (.inl ⟨ts, rfl⟩)))
            · rw [e] at z; cases z; exact absurd rfl (nt ps)
        · rw [q] at h1; cases h1
        · exact absurd k1 q
        · rw [q] at h1; cases h1; exact .inr (.inr (.inr (.inl ⟨ts, rfl⟩)))
        · rw [q] at h1; cases h1; exact absurd rfl (nt ps)
/-- what is known of the states of a run, kept by all that follows -/
class Gr where
  gr : Hp → Hp → Sto → Prop
  cl : ∀ {F H : Hp} {st : Sto} {F' H' : Hp} {st' : Sto}, gr F H st → Step F H st F' H' st' → gr F' H' st'
instance (priority := low) Gr.tr : Gr := ⟨fun _ _ _ => True, fun _ _ => True.intro⟩
/-- the tables of code objects in which lambdas are made: each with the name of all that it tells -/
class Tb where
  T : List (Addr × Str)
instance (priority := low) Tb.nil : Tb := ⟨[]⟩
/-- the table at P is known, it tells only code objects of the name q -/
def TabT (F H : Hp) (st : Sto) (P : Addr) (q : Str) : Prop := F P = none ∧ st P = none ∧ ∃ ps : Array Value, H P = some (.tbl ps) ∧ TriplesOk ps.toList ∧ ∀ (pos : Pos) (cv : Value), codeAmong pos ps.toList = some cv → ∃ c, cv = .ref c ∧ H c = some (LamX.CodeO c q) ∧ st c = none
theorem TabT.keep {F H F' H' : Hp} {st st' : Sto} {P : Addr} {q : Str} (t : TabT F H st P q) (e : ∀ a o, H a = some o → st a = none → H' a = some o ∧ st' a = none) (n : ∀ a o, F' a = some o → F a ≠ none ∨ H a = none ∨ st a ≠ none ∨ ∃ ts, H a = some (.tup ts)) : TabT F' H' st' P q := by
  obtain ⟨hF, h0, ps, h1, h2, h3⟩ := t
  refine ⟨?_, (e _ _ h1 h0).2, ps, (e _ _ h1 h0).1, h2, fun pos cv hc => ?_⟩
  · cases e2 : F' P with
    | none => rfl
    | some o =>
      rcases n P o e2 with z | z | z | ⟨ts, z⟩
      · exact absurd hF z
      · rw [h1] at z; cases z
      · exact absurd h0 z
      · rw [h1] at z; cases z
  · obtain ⟨c, e1, e2, e3⟩ := h3 pos cv hc
    exact ⟨c, e1, e _ _ e2 e3⟩
abbrev TabA [tB : Tb] (F H : Hp) (st : Sto) : Prop := ∀ p ∈ tB.T, TabT F H st p.1 p.2
theorem TabA.keep [tB : Tb] {F H F' H' : Hp} {st st' : Sto} (t : TabA F H st) (e : ∀ a o, H a = some o → st a = none → H' a = some o ∧ st' a = none) (n : ∀ a o, F' a = some o → F a ≠ none ∨ H a = none ∨ st a ≠ none ∨ ∃ ts, H a = some (.tup ts)) : TabA F' H' st' := fun p hp => (t p hp).keep e n
theorem old_F {F H : Hp} {st : Sto} : ∀ a o, F a = some o → F a ≠ none ∨ H a = none ∨ st a ≠ none ∨ ∃ ts, H a = some (.tup ts) := fun a o h => .inl (by rw [h]; exact fun z => (nomatch z))
def plainB : HO → Bool
  | .tbl _ => false
  | .ext _ => false
  | _ => true
theorem plain_co {o : HO} (h : plainB o = true) (c : Addr) (q : Str) : o ≠ LamX.CodeO c q := fun z => by
  rw [z] at h
  unfold LamX.CodeO at h
  cases h
theorem TabA.up [tB : Tb] {F H : Hp} {st : Sto} (t : TabA F H st) {p : Addr} {o : HO} {m : MO} (hp : H p = some o) (h : plainB o = true := by rfl) : TabA F H (up st p m) := fun P hP => by
  obtain ⟨hF, h0, ps, h1, h2, h3⟩ := t P hP
  refine ⟨hF, ?_, ps, h1, h2, fun pos cv hc => ?_⟩
  · rw [up_ne (fun z => by rw [z, hp] at h1; cases h1; cases h)]
    exact h0
  · obtain ⟨c, e1, e2, e3⟩ := h3 pos cv hc
    refine ⟨c, e1, e2, ?_⟩
    rw [up_ne (fun z => by rw [z, hp] at e2; exact plain_co h _ _ (Option.some.inj e2))]
    exact e3
theorem TabA.see [tB : Tb] {F H : Hp} {st : Sto} (t : TabA F H st) {p : Addr} {o o' : HO} (hp : H p = some o) (h : plainB o = true := by rfl) : TabA (upd F p o') H st := fun P hP => by
  obtain ⟨hF, h0, ps, h1, h2, h3⟩ := t P hP
  refine ⟨?_, h0, ps, h1, h2, h3⟩
  rw [upd_ne (fun z => by rw [z, hp] at h1; cases h1; cases h)]
  exact hF
theorem TabA.none [tB : Tb] {F H : Hp} {st : Sto} (t : TabA F H st) {a : Addr} (h : H a = none) : ∀ p ∈ tB.T, p.1 ≠ a := fun p hp z => by
  obtain ⟨_, _, ps, h1, _⟩ := t p hp
  rw [z, h] at h1
  cases h1
variable [tB : Tb] [gR : Gr]
section
variable (K : PySem.W.Frag)
mutual
inductive Rp (F : Hp) : V → PyData → Prop
  | non : Rp F .non .none
  | bl (b : Bool) : Rp F (.bl b) (.bool b)
  | int (i : Int) : Rp F (.int i) (.int i)
  | str (x : Str) : Rp F (.str x) (.str x)
  | lst {a : Addr} {xs : List V} {ds : List PyData} : SqL K F a xs → RpAll F xs ds → Rp F (.ref a) (.list ds)
  | tup {a : Addr} {xs : List V} {ds : List PyData} : F a = some (.tup xs) → RpAll F xs ds → Rp F (.ref a) (.tuple ds)
inductive RpAll (F : Hp) : List V → List PyData → Prop
  | nil : RpAll F [] []
  | cons {v : V} {vs : List V} {d : PyData} {ds : List PyData} : Rp F v d → RpAll F vs ds → RpAll F (v :: vs) (d :: ds)
end
mutual
inductive RV (F : Hp) : V → DV → Prop
  | d {v : V} {x : PyData} : Rp K F v x → RV F v (.d x)
  | r (a : Addr) : RV F (.ref a) (.r a)
  | t {a : Addr} {vs : List V} {xs : List DV} : F a = some (.tup vs) → RVs F vs xs → RV F (.ref a) (.t xs)
inductive RVs (F : Hp) : List V → List DV → Prop
  | nil : RVs F [] []
  | cons {v : V} {vs : List V} {x : DV} {xs : List DV} : RV F v x → RVs F vs xs → RVs F (v :: vs) (x :: xs)
end
def MOk (F H : Hp) (a : Addr) : MO → Prop
  | .lst xs => ∃ vs, H a = some (.lst vs) ∧ RVs K F vs xs
  | .dK kvs => ∃ ws, H a = some (.dK ws) ∧ Paired (fun p q => p.1 = q.1 ∧ RV K F p.2 q.2) ws kvs
  | .dT kvs => ∃ ws, H a = some (.dT ws) ∧ Paired (fun p q => p.1 = q.1 ∧ RV K F p.2 q.2) ws kvs
  | .ins C fs => ∃ dx ws, H a = some (.ins C dx ws) ∧ Paired (fun p q => p.1 = q.1 ∧ RV K F p.2 q.2) ws fs
  | .lk o ws kvs => H a = some (.frz o (.dT ws)) ∧ Paired (fun p q => p.1 = q.1 ∧ RV K F p.2 q.2) ws kvs
  | .xd fs => ∃ ws, H a = some (.xd ws) ∧ Paired (fun p q => p.1 = q.1 ∧ RV K F p.2 q.2) ws fs
structure Rs0 (F H : Hp) (st : Sto) : Prop where
  sub : ∀ a o, F a = some o → H a = some o ∧ st a = none
  ok : ∀ a m, st a = some m → MOk K F H a m
  tb : TabA F H st
structure Rs (F H : Hp) (st : Sto) : Prop extends Rs0 K F H st where
  gr : gR.gr F H st
def RE (F : Hp) (σ : L2.St) (ε : Env) : Prop := σ.length = ε.length ∧ ∀ (i : Nat) (x : DV), ε[i]? = some (some x) → ∃ v, σ[i]? = some (some v) ∧ RV K F v x
end
section
variable {K : PySem.W.Frag} {F F' H H' : Hp} {st st' : Sto} {σ : L2.St} {ε : Env}
theorem Rd.mono {a : Addr} {u : HO} (e : ∀ a o, F a = some o → F' a = some o) (h : Rd F a u) : Rd F' a u := by
  rcases h with h | ⟨o, h⟩
  · exact .inl (e _ _ h)
  · exact .inr ⟨o, e _ _ h⟩
theorem SqL.mono {a : Addr} {xs : List V} (e : ∀ a o, F a = some o → F' a = some o) (h : SqL K F a xs) : SqL K F' a xs := by
  rcases h with h | h
  · exact .inl (Rd.mono e h)
  · exact .inr h
theorem SqT.mono {a : Addr} {xs : List V} (e : ∀ a o, F a = some o → F' a = some o) (h : SqT K F a xs) : SqT K F' a xs := by
  rcases h with h | h
  · exact .inl (Rd.mono e h)
  · exact .inr h
mutual
theorem Rp.mono (e : ∀ a o, F a = some o → F' a = some o) : ∀ {v : V} {d : PyData}, Rp K F v d → Rp K F' v d
  | _, _, .non => .non
  | _, _, .bl b => .bl b
  | _, _, .int i => .int i
  | _, _, .str x => .str x
  | _, _, .lst h q => .lst (SqL.mono e h) (RpAll.mono e q)
  | _, _, .tup h q => .tup (e _ _ h) (RpAll.mono e q)
theorem RpAll.mono (e : ∀ a o, F a = some o → F' a = some o) : ∀ {vs : List V} {ds : List PyData}, RpAll K F vs ds → RpAll K F' vs ds
  | _, _, .nil => .nil
  | _, _, .cons h q => .cons (Rp.mono e h) (RpAll.mono e q)
end
mutual
theorem Rp.dp (e : ∀ a o, F a = some o → H a = some o) : ∀ {v : V} {d : PyData}, Rp K F v d → Dp K H v d
  | _, _, .non => .non
  | _, _, .bl b => .bl b
  | _, _, .int i => .int i
  | _, _, .str x => .str x
  | _, _, .lst h q => .lst (SqL.mono e h) (RpAll.dp e q)
  | _, _, .tup h q => .tup (SqT.of (e _ _ h)) (RpAll.dp e q)
theorem RpAll.dp (e : ∀ a o, F a = some o → H a = some o) : ∀ {vs : List V} {ds : List PyData}, RpAll K F vs ds → DpAll K H vs ds
  | _, _, .nil => .nil
  | _, _, .cons h q => .cons (Rp.dp e h) (RpAll.dp e q)
end
mutual
theorem RV.mono (e : ∀ a o, F a = some o → F' a = some o) : ∀ {v : V} {x : DV}, RV K F v x → RV K F' v x
  | _, _, .d h => .d (Rp.mono e h)
  | _, _, .r a => .r a
  | _, _, .t h q => .t (e _ _ h) (RVs.mono e q)
theorem RVs.mono (e : ∀ a o, F a = some o → F' a = some o) : ∀ {vs : List V} {xs : List DV}, RVs K F vs xs → RVs K F' vs xs
  | _, _, .nil => .nil
  | _, _, .cons h q => .cons (RV.mono e h) (RVs.mono e q)
end
theorem RVs.length : ∀ {vs : List V} {xs : List DV}, RVs K F vs xs → vs.length = xs.length
  | _, _, .nil => rfl
  | _, _, .cons _ q => congrArg (· + 1) (RVs.length q)
theorem RVs.append : ∀ {vs ws : List V} {xs ys : List DV}, RVs K F vs xs → RVs K F ws ys → RVs K F (vs ++ ws) (xs ++ ys)
  | _, _, _, _, .nil, h => h
  | _, _, _, _, .cons h q, k => .cons h (RVs.append q k)
theorem RVs.get : ∀ {vs : List V} {xs : List DV} {i : Nat} {v : V}, RVs K F vs xs → vs[i]? = some v → ∃ x, xs[i]? = some x ∧ RV K F v x
  | _, _, _, _, .nil, e => by simp at e
  | _, _, 0, _, .cons r _, e => by simp at e; subst e; exact ⟨_, rfl, r⟩
  | _, _, i + 1, v, .cons _ t, e => by
    obtain ⟨u, h1, h2⟩ := RVs.get (i := i) (v := v) t (by simpa using e)
    exact ⟨u, by simpa using h1, h2⟩
theorem RVs.get' : ∀ {vs : List V} {xs : List DV} {i : Nat} {x : DV}, RVs K F vs xs → xs[i]? = some x → ∃ v, vs[i]? = some v ∧ RV K F v x
  | _, _, _, _, .nil, e => by simp at e
  | _, _, 0, _, .cons r _, e => by simp at e; subst e; exact ⟨_, rfl, r⟩
  | _, _, i + 1, x, .cons _ t, e => by
    obtain ⟨u, h1, h2⟩ := RVs.get' (i := i) (x := x) t (by simpa using e)
    exact ⟨u, by simpa using h1, h2⟩
theorem RVs.take : ∀ {vs : List V} {xs : List DV} (n : Nat), RVs K F vs xs → RVs K F (vs.take n) (xs.take n)
  | _, _, 0, _ => .nil
  | _, _, _ + 1, .nil => .nil
  | _, _, n + 1, .cons r t => .cons r (RVs.take n t)
theorem RVs.drop : ∀ {vs : List V} {xs : List DV} (n : Nat), RVs K F vs xs → RVs K F (vs.drop n) (xs.drop n)
  | _, _, 0, r => r
  | _, _, _ + 1, .nil => .nil
  | _, _, n + 1, .cons _ t => RVs.drop n t
theorem RVs.set {v : V} {x : DV} (r : RV K F v x) : ∀ {vs : List V} {xs : List DV} (i : Nat), RVs K F vs xs → RVs K F (vs.set i v) (xs.set i x)
  | _, _, _, .nil => .nil
  | _, _, 0, .cons _ t => .cons r t
  | _, _, i + 1, .cons q t => .cons q (RVs.set r i t)
theorem RpAll.rvs : ∀ {vs : List V} {ds : List PyData}, RpAll K F vs ds → RVs K F vs (ds.map .d)
  | _, _, .nil => .nil
  | _, _, .cons h q => .cons (.d h) (RpAll.rvs q)
def datas : List DV → Option (List PyData)
  | [] => some []
  | .d x :: r => (datas r).map (x :: ·)
  | .r _ :: _ => none
  | .t _ :: _ => none
theorem datas_map : ∀ l : List PyData, datas (l.map .d) = some l
  | [] => rfl
  | x :: r => by simp [datas, datas_map r]
theorem datas_eq : ∀ {xs : List DV} {ds : List PyData}, datas xs = some ds → xs = ds.map .d
  | [], _, h => by cases h; rfl
  | .d x :: r, ds, h => by
    cases e : datas r with
    | none => simp [datas, e] at h
    | some l => simp [datas, e] at h; subst h; simp [← datas_eq e]
theorem RVs.all : ∀ {vs : List V} {ds : List PyData}, RVs K F vs (ds.map .d) → RpAll K F vs ds
  | _, [], h => by cases h; exact .nil
  | _, d :: ds, h => by
    cases h with
    | cons a b =>
      cases a with
      | d a => exact .cons a (RVs.all b)
theorem RE.mono (e : ∀ a o, F a = some o → F' a = some o) (h : RE K F σ ε) : RE K F' σ ε := ⟨h.1, fun i x q => let ⟨v, a, b⟩ := h.2 i x q; ⟨v, a, RV.mono e b⟩⟩
theorem RE.set {v : V} {x : DV} (h : RE K F σ ε) (r : RV K F v x) (i : Nat) : RE K F (σ.set i (some v)) (ε.set i (some x)) := by
  refine ⟨by rw [List.length_set, List.length_set]; exact h.1, fun j y q => ?_⟩
  by_cases e : i = j
  · subst e
    by_cases hl : i < ε.length
    · rw [List.getElem?_set_self hl] at q
      cases q
      exact ⟨v, by rw [List.getElem?_set_self (by rw [h.1]; exact hl)], r⟩
    · rw [List.getElem?_eq_none (by rw [List.length_set]; omega)] at q
      cases q
  · rw [List.getElem?_set_ne e] at q ⊢
    exact h.2 j y q
def wipeD (ε : Env) : List Nat → Env
  | [] => ε
  | v :: vs => (wipeD ε vs).set v none
theorem RE.setN (h : RE K F σ ε) (i : Nat) : RE K F (σ.set i none) (ε.set i none) := by
  refine ⟨by rw [List.length_set, List.length_set]; exact h.1, fun j y q => ?_⟩
  by_cases e : i = j
  · subst e
    by_cases hl : i < ε.length
    · rw [List.getElem?_set_self hl] at q
      cases q
    · rw [List.getElem?_eq_none (by rw [List.length_set]; omega)] at q
      cases q
  · rw [List.getElem?_set_ne e] at q ⊢
    exact h.2 j y q
theorem RE.wipe (h : RE K F σ ε) : ∀ vs : List Nat, RE K F (wipe σ vs) (wipeD ε vs)
  | [] => h
  | v :: vs => RE.setN (RE.wipe h vs) v
theorem MOk.mono (e : ∀ a o, F a = some o → F' a = some o) {a : Addr} (hh : H' a = H a) : ∀ {m : MO}, MOk K F H a m → MOk K F' H' a m
  | .lst _, ⟨vs, h, q⟩ => ⟨vs, hh.trans h, RVs.mono e q⟩
  | .dK _, ⟨vs, h, q⟩ => ⟨vs, hh.trans h, Paired.mapP q fun _ _ z => ⟨z.1, RV.mono e z.2⟩⟩
  | .dT _, ⟨vs, h, q⟩ => ⟨vs, hh.trans h, Paired.mapP q fun _ _ z => ⟨z.1, RV.mono e z.2⟩⟩
  | .ins _ _, ⟨dx, vs, h, q⟩ => ⟨dx, vs, hh.trans h, Paired.mapP q fun _ _ z => ⟨z.1, RV.mono e z.2⟩⟩
  | .lk _ _ _, ⟨h, q⟩ => ⟨hh.trans h, Paired.mapP q fun _ _ z => ⟨z.1, RV.mono e z.2⟩⟩
  | .xd _, ⟨vs, h, q⟩ => ⟨vs, hh.trans h, Paired.mapP q fun _ _ z => ⟨z.1, RV.mono e z.2⟩⟩
theorem MOk.some {a : Addr} {m : MO} (h : MOk K F H a m) : ∃ o, H a = some o := by
  cases m with
  | lst _ => obtain ⟨_, h, _⟩ := h; exact ⟨_, h⟩
  | dK _ => obtain ⟨_, h, _⟩ := h; exact ⟨_, h⟩
  | dT _ => obtain ⟨_, h, _⟩ := h; exact ⟨_, h⟩
  | ins _ _ => obtain ⟨_, _, h, _⟩ := h; exact ⟨_, h⟩
  | lk _ _ _ => obtain ⟨h, _⟩ := h; exact ⟨_, h⟩
  | xd _ => obtain ⟨_, h, _⟩ := h; exact ⟨_, h⟩
theorem Rs0.free (R : Rs0 K F H st) {p : Addr} (hp : H p = none) : F p = none ∧ st p = none := by
  constructor
  · cases e : F p with
    | none => rfl
    | some o => rw [(R.sub p o e).1] at hp; cases hp
  · cases e : st p with
    | none => rfl
    | some m => obtain ⟨o, q⟩ := (R.ok p m e).some; rw [hp] at q; cases q
/-- a new frozen object -/
theorem Rs0.frz (R : Rs0 K F H st) {p : Addr} {o : HO} (hp : H p = none) : Rs0 K (upd F p o) (upd H p o) st ∧ Step F H st (upd F p o) (upd H p o) st := by
  obtain ⟨f0, s0⟩ := R.free hp
  have e : ∀ a u, F a = some u → upd F p o a = some u := fun a u h => by
    rw [upd_ne (fun q => by rw [q, f0] at h; cases h)]; exact h
  have pr : ∀ a u, H a = some u → st a = none → upd H p o a = some u ∧ st a = none := fun a u h k => by
    refine ⟨?_, k⟩
    rw [upd_ne (fun q => by rw [q, hp] at h; cases h)]; exact h
  have fn : ∀ a u, upd F p o a = some u → F a ≠ none ∨ H a = none ∨ st a ≠ none ∨ ∃ ts, H a = some (.tup ts) := fun a u h => by
    by_cases q : a = p
    · subst q; exact .inr (.inl hp)
    · rw [upd_ne q] at h; exact .inl (by rw [h]; exact fun z => nomatch z)
  refine ⟨⟨fun a u h => ?_, fun a m h => ?_, R.tb.keep pr fn⟩, Step.of e pr fn⟩
  · by_cases q : a = p
    · subst q; rw [upd_same] at h ⊢; exact ⟨h, s0⟩
    · rw [upd_ne q] at h ⊢; exact R.sub a u h
  · refine MOk.mono e ?_ (R.ok a m h)
    exact upd_ne fun q => by rw [q, s0] at h; cases h
/-- a new hidden object, neither frozen nor in the store -/
theorem Rs0.hide (R : Rs0 K F H st) {p : Addr} {o : HO} (hp : H p = none) : Rs0 K F (upd H p o) st ∧ Step F H st F (upd H p o) st := by
  obtain ⟨f0, s0⟩ := R.free hp
  have pr : ∀ a u, H a = some u → st a = none → upd H p o a = some u ∧ st a = none := fun a u h k => by
    refine ⟨?_, k⟩
    rw [upd_ne (fun q => by rw [q, hp] at h; cases h)]; exact h
  refine ⟨⟨fun a u h => ?_, fun a m h => ?_, R.tb.keep pr old_F⟩, Step.of (fun _ _ h => h) pr fun a u h => .inl (by rw [h]; exact fun z => nomatch z)⟩
  · rw [upd_ne (fun q => by rw [q, f0] at h; cases h)]; exact R.sub a u h
  · refine MOk.mono (fun _ _ z => z) ?_ (R.ok a m h)
    exact upd_ne fun q => by rw [q, s0] at h; cases h
/-- a new object of the store -/
theorem Rs0.new (R : Rs0 K F H st) {p : Addr} {o : HO} {m : MO} (hp : H p = none) (hm : MOk K F (upd H p o) p m) : Rs0 K F (upd H p o) (up st p m) ∧ Step F H st F (upd H p o) (up st p m) := by
  obtain ⟨f0, s0⟩ := R.free hp
  have pr : ∀ a u, H a = some u → st a = none → upd H p o a = some u ∧ up st p m a = none := fun a u h k => by
    have q : a ≠ p := fun q => by rw [q, hp] at h; cases h
    rw [upd_ne q, up_ne q]; exact ⟨h, k⟩
  refine ⟨⟨fun a u h => ?_, fun a m' h => ?_, R.tb.keep pr old_F⟩, Step.of (fun _ _ h => h) pr fun a u h => .inl (by rw [h]; exact fun z => nomatch z)⟩
  · have q : a ≠ p := fun q => by rw [q, f0] at h; cases h
    rw [upd_ne q, up_ne q]; exact R.sub a u h
  · by_cases q : a = p
    · subst q; rw [up_same] at h; cases h; exact hm
    · rw [up_ne q] at h; exact MOk.mono (fun _ _ z => z) (upd_ne q) (R.ok a m' h)
/-- an object of the store written -/
theorem Rs0.put (R : Rs0 K F H st) {p : Addr} {o : HO} {m m0 : MO} (h0 : st p = some m0) (hm : MOk K F (upd H p o) p m) : Rs0 K F (upd H p o) (up st p m) ∧ Step F H st F (upd H p o) (up st p m) := by
  have f0 : ∀ u, F p ≠ some u := fun u h => by rw [(R.sub p u h).2] at h0; cases h0
  have pr : ∀ a u, H a = some u → st a = none → upd H p o a = some u ∧ up st p m a = none := fun a u h k => by
    have q : a ≠ p := fun q => by rw [q, h0] at k; cases k
    rw [upd_ne q, up_ne q]; exact ⟨h, k⟩
  refine ⟨⟨fun a u h => ?_, fun a m' h => ?_, R.tb.keep pr old_F⟩, Step.of (fun _ _ h => h) pr fun a u h => .inl (by rw [h]; exact fun z => nomatch z)⟩
  · have q : a ≠ p := fun q => f0 u (q ▸ h)
    rw [upd_ne q, up_ne q]; exact R.sub a u h
  · by_cases q : a = p
    · subst q; rw [up_same] at h; cases h; exact hm
    · rw [up_ne q] at h; exact MOk.mono (fun _ _ z => z) (upd_ne q) (R.ok a m' h)
/-- a hidden object written -/
theorem Rs0.hput (R : Rs0 K F H st) {p : Addr} {o : HO} (f0 : F p = none) (s0 : st p = none) (t0 : ∀ P q, (P, q) ∈ tB.T → P ≠ p) (c0 : ∀ q, H p ≠ some (LamX.CodeO p q)) : Rs0 K F (upd H p o) st := by
  refine ⟨fun a u h => ?_, fun a m' h => ?_, fun P hP => ?_⟩
  · have q : a ≠ p := fun q => by rw [q, f0] at h; cases h
    rw [upd_ne q]; exact R.sub a u h
  · have q : a ≠ p := fun q => by rw [q, s0] at h; cases h
    exact MOk.mono (fun _ _ z => z) (upd_ne q) (R.ok a m' h)
  · obtain ⟨hF, h0, ps, h1, h2, h3⟩ := R.tb P hP
    refine ⟨hF, h0, ps, by rw [upd_ne (t0 _ _ hP)]; exact h1, h2, fun pos cv hc => ?_⟩
    obtain ⟨c, e1, e2, e3⟩ := h3 pos cv hc
    exact ⟨c, e1, by rw [upd_ne (fun z => c0 P.2 (by rw [← z]; exact e2))]; exact e2, e3⟩
def Le (st st' : Sto) : Prop := ∀ a m, st a = some m → st' a = some m
theorem Le.refl (st : Sto) : Le st st := fun _ _ h => h
theorem Le.trans {a b c : Sto} (h : Le a b) (k : Le b c) : Le a c := fun x m q => k x m (h x m q)
theorem Le.up {a b : Sto} {p : Addr} {m : MO} (h : Le a b) (hp : a p = none) : Le a (up b p m) := fun x n q => by
  rw [up_ne (fun e => by rw [e, hp] at q; cases q)]; exact h x n q
theorem Le.non (h : Le st st') {a : Addr} (e : st' a = none) : st a = none := by
  cases e2 : st a with
  | none => rfl
  | some m => rw [h a m e2] at e; cases e
theorem Rs0.le (R : Rs0 K F H st') (h : Le st st') : Rs0 K F H st := ⟨fun a o q => ⟨(R.sub a o q).1, h.non (R.sub a o q).2⟩, fun a m q => R.ok a m (h a m q), R.tb.keep (fun a o e n => ⟨e, h.non n⟩) fun a o q => .inl (by rw [q]; exact fun z => (nomatch z))⟩
theorem Rs.free (R : Rs K F H st) {p : Addr} (hp : H p = none) : F p = none ∧ st p = none := R.toRs0.free hp
theorem Rs.frz (R : Rs K F H st) {p : Addr} {o : HO} (hp : H p = none) : Rs K (upd F p o) (upd H p o) st ∧ Step F H st (upd F p o) (upd H p o) st := let ⟨a, s⟩ := R.toRs0.frz hp; ⟨⟨a, Gr.cl R.gr s⟩, s⟩
theorem Rs.hide (R : Rs K F H st) {p : Addr} {o : HO} (hp : H p = none) : Rs K F (upd H p o) st ∧ Step F H st F (upd H p o) st := let ⟨a, s⟩ := R.toRs0.hide hp; ⟨⟨a, Gr.cl R.gr s⟩, s⟩
theorem Rs.new (R : Rs K F H st) {p : Addr} {o : HO} {m : MO} (hp : H p = none) (hm : MOk K F (upd H p o) p m) : Rs K F (upd H p o) (up st p m) ∧ Step F H st F (upd H p o) (up st p m) := let ⟨a, s⟩ := R.toRs0.new hp hm; ⟨⟨a, Gr.cl R.gr s⟩, s⟩
theorem Rs.put (R : Rs K F H st) {p : Addr} {o : HO} {m m0 : MO} (h0 : st p = some m0) (hm : MOk K F (upd H p o) p m) : Rs K F (upd H p o) (up st p m) ∧ Step F H st F (upd H p o) (up st p m) := let ⟨a, s⟩ := R.toRs0.put h0 hm; ⟨⟨a, Gr.cl R.gr s⟩, s⟩
theorem Step.hput {F H F' H' : Hp} {st st' : Sto} {p : Addr} {o : HO} (s : Step F H st F' H' st') (h : H p = none) : Step F H st F' (upd H' p o) st' :=
  ⟨s.ex, fun a u e n k => by
    have q : a ≠ p := fun q => by rw [q, h] at e; cases e
    rw [upd_ne q]
    exact s.pres a u e n k, s.fnew⟩
/-- a hidden object, new since an earlier state, written -/
theorem Rs.hput {F1 H1 : Hp} {st1 : Sto} (R : Rs K F1 H1 st1) {p : Addr} {o : HO} (f0 : F1 p = none) (s0 : st1 p = none) {o0 : HO} (hp1 : H1 p = some o0) (R0 : Rs K F H st) (s : Step F H st F1 H1 st1) (hp : H p = none) (pl : plainB o0 = true := by rfl) : Rs K F1 (upd H1 p o) st1 :=
  ⟨R.toRs0.hput f0 s0 (fun P q hm => R0.tb.none hp _ hm) (fun q z => by rw [hp1] at z; exact plain_co pl _ _ (Option.some.inj z)), Gr.cl R0.gr (s.hput hp)⟩
/-- an object new since then comes into the store -/
theorem Step.seen {F H F' H' : Hp} {st st' : Sto} {p : Addr} {m : MO} (s : Step F H st F' H' st') (h : H p = none) : Step F H st F' H' (up st' p m) :=
  ⟨s.ex, fun a u e n k => by
    have q : a ≠ p := fun q => by rw [q, h] at e; cases e
    rw [up_ne q]
    exact s.pres a u e n k, s.fnew⟩
/-- some of the store is forgotten -/
theorem Step.less {F H F' H' : Hp} {st st' st2 : Sto} (t : Step F H st F' H' st') (le : Le st2 st') : Step F H st F' H' st2 := ⟨t.ex, fun b o e nt n => ⟨(t.pres b o e nt n).1, le.non (t.pres b o e nt n).2⟩, t.fnew⟩
/-- by a step -/
theorem Rs.by {F1 H1 : Hp} {st1 : Sto} (R0 : Rs K F H st) (R : Rs0 K F1 H1 st1) (s : Step F H st F1 H1 st1) : Rs K F1 H1 st1 := ⟨R, Gr.cl R0.gr s⟩
end
end DL
end
section
set_option Elab.async false
set_option linter.all false
set_option maxRecDepth 100000
set_option maxHeartbeats 2000000
namespace DL
open PySem L2 PyProof.Rows
variable [tB : Tb] [gR : Gr]
abbrev TD := Env → Sto → (DV → Sto → Prop) → Prop
abbrev TDt := Env → Sto → (Bool → Sto → Prop) → Prop
abbrev TDa := Env → Sto → (List DV → Sto → Prop) → Prop
abbrev R2D := DV → DV → Sto → (DV → Sto → Prop) → Prop
abbrev R1D := DV → Sto → (DV → Sto → Prop) → Prop
abbrev RLD := List DV → Sto → (DV → Sto → Prop) → Prop
/-- what is wanted of what comes out -/
def Kg {α β : Type} (rel : Hp → α → β → Prop) (K : PySem.W.Frag) (F H : Hp) (st : Sto) (Qd : β → Sto → Prop) (Q : α → Hp → Prop) : Prop :=
  ∀ F' a H' b st', Step F H st F' H' st' → Rs K F' H' st' → rel F' a b → Qd b st' → Q a H'
def Sg {α β : Type} (rel : Hp → α → β → Prop) (K : PySem.W.Frag) (te : L2.St → Hp → (α → Hp → Prop) → Prop) (t : Env → Sto → (β → Sto → Prop) → Prop) : Prop :=
  ∀ F σ H ε st Qd Q, Rs K F H st → RE K F σ ε → t ε st Qd → Kg rel K F H st Qd Q → te σ H Q
theorem Kg.at {α β : Type} {rel : Hp → α → β → Prop} {K : PySem.W.Frag} {F H : Hp} {st : Sto} {Qd : β → Sto → Prop} {Q : α → Hp → Prop} (k : Kg rel K F H st Qd Q) {a : α} {b : β} (R : Rs K F H st) (r : rel F a b) (q : Qd b st) : Q a H :=
  k F a H b st (Step.refl _ _ _) R r q
omit gR in
theorem Rs0.tr {K : PySem.W.Frag} {F H : Hp} {st : Sto} (R : Rs0 K F H st) : @Rs _ Gr.tr K F H st := ⟨R, True.intro⟩
omit gR in
theorem Rs0.of {K : PySem.W.Frag} {F H : Hp} {st : Sto} (R : @Rs _ Gr.tr K F H st) : Rs0 K F H st := R.toRs0
theorem Kg.tr {α β : Type} {rel : Hp → α → β → Prop} {K : PySem.W.Frag} {F H : Hp} {st : Sto} {Qd : β → Sto → Prop} {Q : α → Hp → Prop} (k : Kg rel K F H st Qd Q) (R : Rs K F H st) : @Kg _ Gr.tr α β rel K F H st Qd Q :=
  fun F' a H' b st' s R' r q => k F' a H' b st' s (R.by (Rs0.of R') s) r q
abbrev relT : Hp → Bool → Bool → Prop := fun _ a b => a = b
structure DE (X : Cx) (e : Expr) (t : TD) : Prop where
  ex : ∃ te, PE X e te ∧ Sg (RV X.K) X.K te t
structure DT (X : Cx) (e : Expr) (t : TDt) : Prop where
  ex : ∃ te, PT X e te ∧ Sg relT X.K te t
structure DW (X : Cx) (e : Expr) (t : TDt) : Prop where
  ex : ∃ te, PW X e te ∧ Sg relT X.K te t
structure DA (X : Cx) (es : List Expr) (t : TDa) : Prop where
  ex : ∃ te, PA X es te ∧ Sg (RVs X.K) X.K te t
/-- two values in, one out -/
def S2 (K : PySem.W.Frag) (r' : R2) (r : R2D) : Prop := ∀ F H st v w x y Qd Q, Rs K F H st → RV K F v x → RV K F w y → r x y st Qd → Kg (RV K) K F H st Qd Q → r' v w H Q
def S1 (K : PySem.W.Frag) (r' : V → Hp → VK → Prop) (r : R1D) : Prop := ∀ F H st v x Qd Q, Rs K F H st → RV K F v x → r x st Qd → Kg (RV K) K F H st Qd Q → r' v H Q
def SL (K : PySem.W.Frag) (r' : List V → Hp → VK → Prop) (r : RLD) : Prop := ∀ F H st vs xs Qd Q, Rs K F H st → RVs K F vs xs → r xs st Qd → Kg (RV K) K F H st Qd Q → r' vs H Q
/-- the context of a piece of a def's body -/
structure Cok (P : Program) (w : World) (K : PySem.W.Frag) (mg : Str → Option Value) (base : Heap) (X : Cx) (N : List Str) (sc fs : Scope) (k : Nat) : Prop where
  hP : X.prog = P
  hw : X.w = w
  hK : X.K = K
  hmg : X.mg = mg
  hb : X.base = base
  hN : X.N = N
  nd : N.Nodup
  kind : sc.kind = .function
  hs : X.env.scope = sc
  calm : X.calm = true
  fn : ∀ x, fs.names.lookup x = some .cell → X.fn x = true
  room : Room k X.A
  pass : PassesOwn (model X.prog X.w) X.A X.env X.xe
section
variable {P : Program} {w : World} {K : PySem.W.Frag} {mg : Str → Option Value} {base : Heap} {X : Cx} {N : List Str} {sc fs : Scope} {k : Nat}
def visB (N : List Str) (sc : Scope) (i : Nat) (x : Str) : Bool :=
  decide (N[i]? = some x) && (match sc.names.lookup x with | some .local => true | some .cell => true | some .free => true | _ => false) && !(x == ("__debug__" : Str)) && !(x == ("__classdict__" : Str))
def locB (N : List Str) (sc fs : Scope) (i : Nat) (x : Str) : Bool :=
  decide (N[i]? = some x) && (match sc.names.lookup x with | some .local => true | some .cell => (match fs.names.lookup x with | some .cell => true | _ => false) | _ => false)
def glB (sc : Scope) (x : Str) : Bool := (match sc.names.lookup x with | some .globalImplicit => true | _ => false) && !(x == ("__debug__" : Str)) && !(x == ("__name__" : Str))
def qv (i : Nat) : TD := fun ε st Q => match ε[i]? with | some (some x) => Q x st | _ => False
theorem de_var {i : Nat} {x : Str} {pos : Pos} (c : Cok P w K mg base X N sc fs k) (h : visB N sc i x = true) : DE X (.Name x pos) (qv i) := by
  unfold visB at h
  simp only [Bool.and_eq_true, decide_eq_true_eq, Bool.not_eq_true'] at h
  obtain ⟨⟨⟨h1, h2⟩, h3⟩, h4⟩ := h
  refine ⟨⟨tVar i, pe_var (by rw [c.hN]; exact h1) ?_ h3 h4, fun F σ H ε st Qd Q R E q kk => ?_⟩⟩
  · unfold Vis
    rw [c.hs]
    split at h2 <;> first | exact .inl (by assumption) | exact .inr (.inl (by assumption)) | exact .inr (.inr (by assumption)) | cases h2
  · unfold qv at q
    split at q
    · rename_i x e
      obtain ⟨v, e2, r⟩ := E.2 i x e
      exact ⟨v, e2, kk.at R r q⟩
    · exact q.elim
def qc (x : DV) : TD := fun _ st Q => Q x st
theorem de_int {i j pos} : DE X (.Constant (.int i) j pos) (qc (.d (.int i))) := ⟨⟨_, pe_int, fun F σ H ε st Qd Q R E q kk => kk.at R (.d (.int i)) q⟩⟩
theorem de_bl {b j pos} : DE X (.Constant (.bool b) j pos) (qc (.d (.bool b))) := ⟨⟨_, pe_bl, fun F σ H ε st Qd Q R E q kk => kk.at R (.d (.bl b)) q⟩⟩
theorem de_str {x j pos} : DE X (.Constant (.str x) j pos) (qc (.d (.str x))) := ⟨⟨_, pe_str, fun F σ H ε st Qd Q R E q kk => kk.at R (.d (.str x)) q⟩⟩
theorem Sg.bin {α β γ δ ξ ζ : Type} {rel1 : Hp → α → β → Prop} {rel2 : Hp → γ → δ → Prop} {rel3 : Hp → ξ → ζ → Prop} {ta : L2.St → Hp → (α → Hp → Prop) → Prop} {tb : L2.St → Hp → (γ → Hp → Prop) → Prop}
    {da : Env → Sto → (β → Sto → Prop) → Prop} {db : Env → Sto → (δ → Sto → Prop) → Prop} {r' : α → γ → Hp → (ξ → Hp → Prop) → Prop} {r : β → δ → Sto → (ζ → Sto → Prop) → Prop}
    (sa : Sg rel1 K ta da) (sb : Sg rel2 K tb db) (mono : ∀ F F' a b, (∀ x o, F x = some o → F' x = some o) → rel1 F a b → rel1 F' a b)
    (hs : ∀ F H st v w x y Qd Q, Rs K F H st → rel1 F v x → rel2 F w y → r x y st Qd → Kg rel3 K F H st Qd Q → r' v w H Q) :
    Sg rel3 K (fun σ H Q => ta σ H fun x H1 => tb σ H1 fun y H2 => r' x y H2 Q) (fun ε st Q => da ε st fun x s1 => db ε s1 fun y s2 => r x y s2 Q) := by
  intro F σ H ε st Qd Q R E h kk
  refine sa F σ H ε st _ _ R E h fun F1 v H1 x s1 t1 R1 rv q => ?_
  refine sb F1 σ H1 ε s1 _ _ R1 (E.mono t1.ex) q fun F2 u H2 y s2 t2 R2 ru q2 => ?_
  exact hs F2 H2 s2 v u x y _ _ R2 (mono _ _ _ _ t2.ex rv) ru q2 fun F3 z H3 z' s3 t3 R3 rz q3 => kk F3 z H3 z' s3 ((t1.trans t2).trans t3) R3 rz q3
def qOp (r : R2D) (ta tb : TD) : TD := fun ε st Q => ta ε st fun x s1 => tb ε s1 fun y s2 => r x y s2 Q
theorem de_op {op : Operator} {a b : Expr} {pos : Pos} {ta tb : TD} {r' : R2} {r : R2D} (ho : OpR X (binaryOp op) r') (hs : S2 X.K r' r) (ha : DE X a ta) (hb : DE X b tb) : DE X (.BinOp a op b pos) (qOp r ta tb) := by
  obtain ⟨te, pa, sa⟩ := ha
  obtain ⟨tf, pb, sb⟩ := hb
  exact ⟨⟨_, pe_op ho pa pb, Sg.bin sa sb (fun _ _ _ _ e h => RV.mono e h) hs⟩⟩
theorem de_cmp {op : CmpOp} {a b : Expr} {pos : Pos} {ta tb : TD} {r' : R2} {r : R2D} (ho : OpR X (compareOp op) r') (hs : S2 X.K r' r) (hm : behindInMarks op b = false) (ha : DE X a ta) (hb : DE X b tb) : DE X (.Compare a [op] [b] pos) (qOp r ta tb) := by
  obtain ⟨te, pa, sa⟩ := ha
  obtain ⟨tf, pb, sb⟩ := hb
  exact ⟨⟨_, pe_cmpR ho pa pb hm, Sg.bin sa sb (fun _ _ _ _ e h => RV.mono e h) hs⟩⟩
def qUn (r : R1D) (ta : TD) : TD := fun ε st Q => ta ε st fun x s1 => r x s1 Q
theorem Sg.go {α β γ δ : Type} {rel1 : Hp → α → β → Prop} {rel3 : Hp → γ → δ → Prop} {ta : L2.St → Hp → (α → Hp → Prop) → Prop} {da : Env → Sto → (β → Sto → Prop) → Prop} {F H : Hp} {σ : L2.St} {ε : Env} {st : Sto} {G : β → Sto → Prop} {W : α → Hp → Prop}
    {Qd : δ → Sto → Prop} {Q : γ → Hp → Prop} (sa : Sg rel1 K ta da) (R : Rs K F H st) (E : RE K F σ ε) (h : da ε st G) (kk : Kg rel3 K F H st Qd Q)
    (hs : ∀ F1 H1 s1 v x, Rs K F1 H1 s1 → RE K F1 σ ε → rel1 F1 v x → G x s1 → Kg rel3 K F1 H1 s1 Qd Q → W v H1) : ta σ H W := by
  refine sa F σ H ε st _ _ R E h fun F1 v H1 x s1 t1 R1 rv q => ?_
  exact hs F1 H1 s1 v x R1 (E.mono t1.ex) rv q fun F3 z H3 z' s3 t3 R3 rz q3 => kk F3 z H3 z' s3 (t1.trans t3) R3 rz q3
theorem de_un {op : UnaryOp} {a : Expr} {pos : Pos} {ta : TD} {r' : V → Hp → VK → Prop} {r : R1D} (ho : UnR X (unaryOp op) r') (hs : S1 X.K r' r) (ha : DE X a ta) : DE X (.UnaryOp op a pos) (qUn r ta) := by
  obtain ⟨te, pa, sa⟩ := ha
  exact ⟨⟨_, pe_un ho pa, fun F σ H ε st Qd Q R E h kk => sa.go R E h kk fun F1 H1 s1 v x R1 E1 rv q kk => hs F1 H1 s1 v x _ _ R1 rv q kk⟩⟩
def onB (Q : Bool → Sto → Prop) : DV → Sto → Prop
  | .d (.bool b), s => Q b s
  | _, _ => False
theorem onB_out {Q : Bool → Sto → Prop} {x : DV} {s : Sto} (h : onB Q x s) : ∃ b, x = .d (.bool b) ∧ Q b s := by
  unfold onB at h
  split at h
  · exact ⟨_, rfl, h⟩
  · exact h.elim
def qTest (ta : TD) : TDt := fun ε st Q => ta ε st (onB Q)
theorem dt_val {e : Expr} {ta : TD} (ha : DE X e ta) (he : ∀ whole, isTrue e X.env whole = (do let v ← whole; standAt e.pos; holding [v] (truthy v)) := by intro _; rfl) : DT X e (qTest ta) := by
  obtain ⟨te, pa, sa⟩ := ha
  refine ⟨⟨_, pt_val pa he, fun F σ H ε st Qd Q R E h kk => sa.go R E h kk fun F1 H1 s1 v x R1 E1 rv q kk => ?_⟩⟩
  obtain ⟨b, e, q⟩ := onB_out q
  subst e
  cases rv with
  | d rv => cases rv; exact ⟨b, rfl, kk.at R1 rfl q⟩
def qNotT (t : TDt) : TDt := fun ε st Q => t ε st fun b s1 => Q (!b) s1
theorem dt_not {a : Expr} {pos : Pos} {t : TDt} (ha : DT X a t) : DT X (.UnaryOp .Not a pos) (qNotT t) := by
  obtain ⟨te, pa, sa⟩ := ha
  refine ⟨⟨_, pt_not pa, fun F σ H ε st Qd Q R E h kk => sa.go R E h kk fun F1 H1 s1 v x R1 E1 rv q kk => ?_⟩⟩
  cases rv
  exact kk.at R1 rfl q
def qAndT (t u : TDt) : TDt := fun ε st Q => t ε st fun b s1 => if b = true then u ε s1 Q else Q false s1
def qOrT (t u : TDt) : TDt := fun ε st Q => t ε st fun b s1 => if b = true then Q true s1 else u ε s1 Q
theorem DW.pt {e : Expr} {t : TDt} (h : DW X e t) : DT X e t := let ⟨te, p, s⟩ := h.ex; ⟨⟨te, p.pt, s⟩⟩
theorem dw_and1 {a : Expr} {pos : Pos} {t : TDt} (ha : DT X a t) : DW X (.BoolOp .And [a] pos) t := let ⟨te, p, s⟩ := ha.ex; ⟨⟨te, pw_and1 p, s⟩⟩
theorem dw_or1 {a : Expr} {pos : Pos} {t : TDt} (ha : DT X a t) : DW X (.BoolOp .Or [a] pos) t := let ⟨te, p, s⟩ := ha.ex; ⟨⟨te, pw_or1 p, s⟩⟩
theorem dw_and {a b : Expr} {rest : List Expr} {pos : Pos} {t u : TDt} (ha : DT X a t) (hb : DW X (.BoolOp .And (b :: rest) pos) u) : DW X (.BoolOp .And (a :: b :: rest) pos) (qAndT t u) := by
  obtain ⟨te, pa, sa⟩ := ha
  obtain ⟨tf, pb, sb⟩ := hb
  refine ⟨⟨_, pw_and pa pb, fun F σ H ε st Qd Q R E h kk => ?_⟩⟩
  refine sa F σ H ε st _ _ R E h fun F1 v H1 x s1 t1 R1 rv q => ?_
  cases rv
  cases v with
  | true => exact sb F1 σ H1 ε s1 _ _ R1 (E.mono t1.ex) q fun F3 z H3 z' s3 t3 R3 rz q3 => kk F3 z H3 z' s3 (t1.trans t3) R3 rz q3
  | false => exact kk F1 _ H1 _ s1 t1 R1 rfl q
theorem dw_or {a b : Expr} {rest : List Expr} {pos : Pos} {t u : TDt} (ha : DT X a t) (hb : DW X (.BoolOp .Or (b :: rest) pos) u) : DW X (.BoolOp .Or (a :: b :: rest) pos) (qOrT t u) := by
  obtain ⟨te, pa, sa⟩ := ha
  obtain ⟨tf, pb, sb⟩ := hb
  refine ⟨⟨_, pw_or pa pb, fun F σ H ε st Qd Q R E h kk => ?_⟩⟩
  refine sa F σ H ε st _ _ R E h fun F1 v H1 x s1 t1 R1 rv q => ?_
  cases rv
  cases v with
  | false => exact sb F1 σ H1 ε s1 _ _ R1 (E.mono t1.ex) q fun F3 z H3 z' s3 t3 R3 rz q3 => kk F3 z H3 z' s3 (t1.trans t3) R3 rz q3
  | true => exact kk F1 _ H1 _ s1 t1 R1 rfl q
/-- and, or, not as values -/
def qAndV (ta tb : TD) : TD := fun ε st Q => ta ε st (onB fun b s1 => if b = true then tb ε s1 Q else Q (.d (.bool false)) s1)
def qOrV (ta tb : TD) : TD := fun ε st Q => ta ε st (onB fun b s1 => if b = true then Q (.d (.bool true)) s1 else tb ε s1 Q)
def qNotV (ta : TD) : TD := fun ε st Q => ta ε st (onB fun b s1 => Q (.d (.bool (!b))) s1)
def qIf (t : TDt) (ta tb : TD) : TD := fun ε st Q => t ε st fun b s1 => if b = true then ta ε s1 Q else tb ε s1 Q
theorem de_if {c a b : Expr} {pos : Pos} {t : TDt} {ta tb : TD} (hc : DT X c t) (ha : DE X a ta) (hb : DE X b tb) : DE X (.IfExp c a b pos) (qIf t ta tb) := by
  obtain ⟨tc, pc, sc'⟩ := hc
  obtain ⟨te, pa, sa⟩ := ha
  obtain ⟨tf, pb, sb⟩ := hb
  refine ⟨⟨_, pe_ifExp pc pa pb, fun F σ H ε st Qd Q R E h kk => ?_⟩⟩
  refine sc' F σ H ε st _ _ R E h fun F1 v H1 x s1 t1 R1 rv q => ?_
  cases rv
  cases v with
  | true => exact sa F1 σ H1 ε s1 _ _ R1 (E.mono t1.ex) q fun F3 z H3 z' s3 t3 R3 rz q3 => kk F3 z H3 z' s3 (t1.trans t3) R3 rz q3
  | false => exact sb F1 σ H1 ε s1 _ _ R1 (E.mono t1.ex) q fun F3 z H3 z' s3 t3 R3 rz q3 => kk F3 z H3 z' s3 (t1.trans t3) R3 rz q3
/-- a < b < c -/
def qChain (r r2 : R2D) (ta tb tc : TD) : TD := fun ε st Q => ta ε st fun x s1 => tb ε s1 fun y s2 => r x y s2 (onB fun b s3 => if b = true then tc ε s3 fun u s4 => r2 y u s4 Q else Q (.d (.bool false)) s3)
def qNil : TDa := fun _ st Q => Q [] st
def qCons (ta : TD) (tr : TDa) : TDa := fun ε st Q => ta ε st fun x s1 => tr ε s1 fun xs s2 => Q (x :: xs) s2
theorem da_nil : DA X [] qNil := ⟨⟨_, pa_nil, fun F σ H ε st Qd Q R E q kk => kk.at R .nil q⟩⟩
theorem da_cons {e : Expr} {es : List Expr} {t : TD} {u : TDa} (h : DE X e t) (hr : DA X es u) (hs : starEach (e :: es) X.env = (false, eval e X.env) :: starEach es X.env := by rfl) : DA X (e :: es) (qCons t u) := by
  obtain ⟨te, pa, sa⟩ := h
  obtain ⟨tf, pb, sb⟩ := hr
  exact ⟨⟨_, pa_cons pa pb hs, Sg.bin (r' := fun x xs H Q => Q (x :: xs) H) (r := fun x xs st Q => Q (x :: xs) st) sa sb (fun _ _ _ _ e h => RV.mono e h) fun F H st v w x y Qd Q R rv rw q kk => kk.at R (.cons rv rw) q⟩⟩
theorem Rs.ex (F H : Hp) (st : Sto) (R : Rs K F H st) : ∀ a o, F a = some o → H a = some o := fun a o h => (R.sub a o h).1
def mkT (xs : List DV) : DV := match datas xs with | some ds => .d (.tuple ds) | none => .t xs
theorem mkT_rv {F : Hp} {vs : List V} {xs : List DV} {p : Addr} (h : F p = some (.tup vs)) (r : RVs K F vs xs) : RV K F (.ref p) (mkT xs) := by
  unfold mkT
  cases e : datas xs with
  | some ds =>
    have e2 := datas_eq e
    subst e2
    exact .d (.tup h r.all)
  | none => exact .t h r
/-- a new tuple -/
theorem new_tup {F H : Hp} {st : Sto} {vs : List V} {xs : List DV} {p : Addr} {Qd : DV → Sto → Prop} {Q : VK} (R : Rs K F H st) (r : RVs K F vs xs) (hp : H p = none) (q : Qd (mkT xs) st) (kk : Kg (RV K) K F H st Qd Q) : Q (.ref p) (upd H p (.tup vs)) := by
  obtain ⟨R', t⟩ := R.frz (o := .tup vs) hp
  exact kk _ _ _ _ _ t R' (mkT_rv upd_same (r.mono t.ex)) q
/-- a new list: tracked (m) or frozen -/
def newL (m : Bool) (xs : List DV) (st : Sto) (Q : DV → Sto → Prop) : Prop := match m with
  | true => ∀ p, st p = none → Q (.r p) (up st p (.lst xs))
  | false => match datas xs with | some ds => Q (.d (.list ds)) st | none => False
theorem new_lst {F H : Hp} {st : Sto} {vs : List V} {xs : List DV} {m : Bool} {p : Addr} {Qd : DV → Sto → Prop} {Q : VK} (R : Rs K F H st) (r : RVs K F vs xs) (hp : H p = none) (q : newL m xs st Qd) (kk : Kg (RV K) K F H st Qd Q) : Q (.ref p) (upd H p (.lst vs)) := by
  cases m with
  | true =>
    obtain ⟨R', t⟩ := R.new (o := .lst vs) (m := .lst xs) hp ⟨vs, upd_same, r⟩
    exact kk _ _ _ _ _ t R' (.r p) (q p (R.free hp).2)
  | false =>
    unfold newL at q
    simp only at q
    split at q
    rotate_left
    · exact q.elim
    rename_i ds ed
    have ed2 := datas_eq ed
    subst ed2
    obtain ⟨R', t⟩ := R.frz (o := .lst vs) hp
    exact kk _ _ _ _ _ t R' (.d (.lst (SqL.of upd_same) (r.mono t.ex).all)) q
def qTup (t : TDa) : TD := fun ε st Q => t ε st fun xs s1 => xs.length ≤ sizeLine ∧ Q (mkT xs) s1
def qLst (m : Bool) (t : TDa) : TD := fun ε st Q => t ε st fun xs s1 => xs.length ≤ sizeLine ∧ newL m xs s1 Q
theorem de_tup {es : List Expr} {j : Nat} {pos : Pos} {t : TDa} (h : DA X es t) : DE X (.Tuple es j pos) (qTup t) := by
  obtain ⟨te, pa, sa⟩ := h
  refine ⟨⟨_, pe_tup pa, fun F σ H ε st Qd Q R E h kk => sa.go R E h kk fun F1 H1 s1 v x R1 E1 rv q kk => ?_⟩⟩
  exact ⟨by rw [rv.length]; exact q.1, fun p hp => new_tup R1 rv hp q.2 kk⟩
theorem de_lst {es : List Expr} {pos : Pos} {t : TDa} (m : Bool) (h : DA X es t) : DE X (.List es pos) (qLst m t) := by
  obtain ⟨te, pa, sa⟩ := h
  refine ⟨⟨_, pe_lst pa, fun F σ H ε st Qd Q R E h kk => sa.go R E h kk fun F1 H1 s1 v x R1 E1 rv q kk => ?_⟩⟩
  exact ⟨by rw [rv.length]; exact q.1, fun p hp => new_lst R1 rv hp q.2 kk⟩
end
end DL
end
section
set_option Elab.async false
set_option linter.all false
set_option maxRecDepth 100000
set_option maxHeartbeats 4000000
namespace DL
open PySem L2 PyProof.Rows HT
section
variable {prog : Program} {w : World} {A : Around} {E : Value → Shared → Prop} {s : Shared}
theorem tuple_mul_same (l : Addr) (items : Array Value) (n : Nat) (dd : Option Addr) (sl : Array (Option Value)) (x : Int) (u : Tok) (c0 : (decide (x < -(2 ^ 63)) || decide (x ≥ 2 ^ 63)) = false) (c1 : (items.isEmpty || x == 1) = true) :
    Meets (Builtin.«tuple.__mul__» ⟨[.ref l, .int x u], []⟩) (fun _ R s => s.heap.get? l = some { cls := .type "tuple", dict := dd, data := .seq items n, slots := sl } ∧ R (.ok (.ret (Value.ref l))) s) :=
  .of_wp fun prog w A R s h => by
    obtain ⟨hp, g, d, tk, os⟩ := s
    obtain ⟨hl, h⟩ := h
    have f1 := AutoSeq1.idx_int
    wp_walk using wpAny_loadPart' hl
    repeat (first
      | (refine wpAny_ite_false (decide_eq_false (by rw [c0]; exact Bool.false_ne_true)) ?_; wp_walk using wpAny_loadPart' hl)
      | (refine wpAny_ite_true (decide_eq_true c1) ?_; wp_walk using wpAny_loadPart' hl))
    all_goals exact ⟨_, rfl, h⟩
theorem tuple_mul_none (l : Addr) (items : Array Value) (n : Nat) (dd : Option Addr) (sl : Array (Option Value)) (x : Int) (u : Tok) (c0 : (decide (x < -(2 ^ 63)) || decide (x ≥ 2 ^ 63)) = false) (c1 : (items.isEmpty || x == 1) = false) (c2 : (decide (x ≤ 0) || items.isEmpty) = true) :
    Meets (Builtin.«tuple.__mul__» ⟨[.ref l, .int x u], []⟩) (fun _ R s => s.heap.get? l = some { cls := .type "tuple", dict := dd, data := .seq items n, slots := sl } ∧ R (.ok (.ret (Value.ref s.heap.objs.size))) { s with heap := s.heap.push { cls := Value.type "tuple", data := Data.seq #[] }, toks := s.toks }) :=
  .of_wp fun prog w A R s h => by
    obtain ⟨hp, g, d, tk, os⟩ := s
    obtain ⟨hl, h⟩ := h
    have f1 := AutoSeq1.idx_int
    wp_walk using wpAny_loadPart' hl
    repeat (first
      | (refine wpAny_ite_false (decide_eq_false (by rw [c0]; exact Bool.false_ne_true)) ?_; wp_walk using wpAny_loadPart' hl)
      | (refine wpAny_ite_false (decide_eq_false (by rw [c1]; exact Bool.false_ne_true)) ?_; wp_walk using wpAny_loadPart' hl)
      | (refine wpAny_ite_true (decide_eq_true c2) ?_; wp_walk using wpAny_loadPart' hl))
    all_goals exact ⟨_, rfl, h⟩
end
section
variable {X : Cx}
theorem OpR.or2 {f : Value → Value → Sem Value} {r r' : R2} (h : OpR X f r) (h' : OpR X f r') : OpR X f (fun x y H Q => r x y H Q ∨ r' x y H Q) := by
  intro pins s σ H x y v u Q I rx ry q
  rcases q with q | q
  · exact h pins s σ H x y v u Q I rx ry q
  · exact h' pins s σ H x y v u Q I rx ry q
def rRepA (K : PySem.W.Frag) : R2 := fun x y H Q => ∃ l k xs, x = .ref l ∧ y = .int k ∧ SqT K H l xs ∧ xs ≠ [] ∧ k ≤ 1000 ∧ -1000 ≤ k ∧ xs.length ≤ 1000 ∧ (k = 1 → Q (.ref l) H) ∧ (k ≠ 1 → ∀ p, H p = none → Q (.ref p) (upd H p (.tup (List.replicate k.toNat xs).flatten)))
theorem op_repA : OpR X (binaryOp .Mult) (rRepA X.K) := by
  intro pins s σ H x y v u Q I rx ry h
  obtain ⟨l, k, xs, rfl, rfl, hT, hne, h2, h1, hz, q1, q⟩ := h
  by_cases h3 : 2 ≤ k
  · exact op_repT pins s σ H _ _ v u Q I rx ry ⟨l, k, xs, rfl, rfl, hT, hne, h3, h2, hz, q (by omega)⟩
  cases rx
  obtain ⟨t, rfl⟩ := ry
  obtain ⟨its, r, ⟨⟨cls, dd, data, sl⟩, ho, hc, n, hd⟩, hs⟩ := I.tuple hT
  simp only at hc hd
  subst hc hd
  have hn : its ≠ [] := fun e => hne (by
    have hle : its.length = xs.length := r.length.symm
    rw [e] at hle
    exact List.eq_nil_of_length_eq_zero hle.symm)
  have hi : its.toArray.isEmpty = false := by
    cases its with
    | nil => exact absurd rfl hn
    | cons a b => rfl
  have c0 : (decide (k < -(2 ^ 63)) || decide (k ≥ 2 ^ 63)) = false := by
    rw [decide_eq_false (by omega), decide_eq_false (by omega)] <;> rfl
  by_cases h4 : k = 1
  · subst h4
    exact wpAny_binaryOp_repeat_ref (T := "tuple") (U := "int") (by decide) ⟨_, ho, rfl⟩ (fun s' => typeIs_int s' 1 t) noFill_tuple_mul F.fills_int_mul F.slot_int_rmul repeat_tuple F.slot_int_index.lookup
      (call_meets F.slot_int_rmul (typeIs_int s 1 t) F.entry_int_rmul (F.args_int_rmul_2 _ _) (int_rmul_tuple 1 t l its.toArray n dd sl)
        ⟨ho, rfl, ⟨_, ho, rfl⟩, call_meets F.slot_tuple_mul ⟨_, ho, rfl⟩ F.entry_tuple_mul (F.args_tuple_mul_2 _ _) (tuple_mul_same l its.toArray n dd sl 1 t c0 (by rw [hi]; rfl)) ⟨ho, ⟨.ref l, H, I, rfl, q1 rfl⟩⟩⟩)
  · have c1 : (its.toArray.isEmpty || k == 1) = false := by
      rw [hi, Bool.false_or]
      exact beq_eq_false_iff_ne.mpr h4
    have c2 : (decide (k ≤ 0) || its.toArray.isEmpty) = true := by
      rw [decide_eq_true (by omega)] <;> rfl
    refine wpAny_binaryOp_repeat_ref (T := "tuple") (U := "int") (by decide) ⟨_, ho, rfl⟩ (fun s' => typeIs_int s' k t) noFill_tuple_mul F.fills_int_mul F.slot_int_rmul repeat_tuple F.slot_int_index.lookup
      (call_meets F.slot_int_rmul (typeIs_int s k t) F.entry_int_rmul (F.args_int_rmul_2 _ _) (int_rmul_tuple k t l its.toArray n dd sl)
        ⟨ho, rfl, ⟨_, ho, rfl⟩, call_meets F.slot_tuple_mul ⟨_, ho, rfl⟩ F.entry_tuple_mul (F.args_tuple_mul_2 _ _) (tuple_mul_none l its.toArray n dd sl k t c0 c1 c2) ⟨ho, ?_⟩⟩)
    have e0 : k.toNat = 0 := by omega
    have q' := q h4
    rw [e0] at q'
    refine ⟨.ref s.heap.objs.size, _, I.laid (t' := s.toks) (o := .tup []) (fun b ob q => Heap.get?_push_of_some _ q) (Nat.le_refl _) ?_, rfl, q' _ (I.hok.fresh (Nat.le_refl _))⟩
    exact ⟨Nat.zero_le _, [], .nil, IsTup.new _ _⟩
def rCatL (K : PySem.W.Frag) : R2 := fun x y H Q => ∃ l b xs zs, x = .ref l ∧ y = .ref b ∧ SqL K H l xs ∧ SqL K H b zs ∧ xs.length + zs.length ≤ sizeLine ∧ ∀ p, H p = none → Q (.ref p) (upd H p (.lst (xs ++ zs)))
theorem op_catL : OpR X (binaryOp .Add) (rCatL X.K) := by
  intro pins s σ H x y v u Q I rx ry h
  obtain ⟨l, b, xs, zs, rfl, rfl, hH, hB, hz, q⟩ := h
  cases rx
  cases ry
  obtain ⟨its, r, ⟨⟨cls, dd, data, sl⟩, n, ho, hc, hd0, hd⟩, hs⟩ := I.list hH
  obtain ⟨its2, r2, ⟨⟨cls2, dd2, data2, sl2⟩, n2, ho2, hc2, hd02, hd2⟩, hs2⟩ := I.list hB
  simp only at hc hd hc2 hd2
  subst hc hd hc2 hd2
  have hlen := r.length
  have hlen2 := r2.length
  have e : its.toArray ++ its2.toArray = (its ++ its2).toArray := by simp
  refine concat_meets ⟨_, ho, rfl⟩ ⟨_, ho2, rfl⟩ noFill_list_add seq_list_add PySem.F.slot_list_add PySem.F.entry_list_add (PySem.F.args_list_add_2 _ _) (list_addW l b its.toArray its2.toArray n n2 dd dd2 sl sl2 (by simp only [List.size_toArray]; omega)) ⟨ho, ho2, ?_⟩
  rw [e]
  exact ⟨.ref _, _, I.lnew (t' := s.toks) (r.append r2) (by rw [List.length_append]; omega), rfl, q _ I.fresh⟩
end
end DL
end
section
set_option Elab.async false
set_option linter.all false
set_option maxRecDepth 100000
set_option maxHeartbeats 4000000
namespace DL
open PySem L2 PyProof.Rows
variable [tB : Tb] [gR : Gr]
def titems : DV → Option (List DV)
  | .d (.tuple xs) => some (xs.map .d)
  | .t xs => some xs
  | _ => none
def litems (st : Sto) : DV → Option (List DV)
  | .d (.list xs) => some (xs.map .d)
  | .r a => match st a with | some (.lst xs) => some xs | _ => none
  | _ => none
def sitems (st : Sto) (x : DV) : Option (List DV) := match titems x with | some l => some l | none => litems st x
def fz (st : Sto) : DV → Option PyData
  | .d x => some x
  | .t _ => none
  | .r a => match st a with | some (.lst xs) => (datas xs).map .list | _ => none
section
variable {K : PySem.W.Frag} {F H : Hp} {st : Sto} {v w : V} {x y : DV}
theorem rv_int {i : Int} (r : RV K F v (.d (.int i))) : v = .int i := by cases r with | d r => cases r; rfl
theorem rv_bool {b : Bool} (r : RV K F v (.d (.bool b))) : v = .bl b := by cases r with | d r => cases r; rfl
theorem rv_str {z : Str} (r : RV K F v (.d (.str z))) : v = .str z := by cases r with | d r => cases r; rfl
theorem titems_rv {xs : List DV} (r : RV K F v x) (h : titems x = some xs) : ∃ a vs, v = .ref a ∧ F a = some (.tup vs) ∧ RVs K F vs xs := by
  cases x with
  | d z =>
    cases z with
    | tuple ds => cases h; cases r with | d r => cases r with | tup q s => exact ⟨_, _, rfl, q, s.rvs⟩
    | _ => cases h
  | t ys => cases h; cases r with | t q s => exact ⟨_, _, rfl, q, s⟩
  | r a => cases h
theorem litems_rv {xs : List DV} (R : Rs K F H st) (r : RV K F v x) (h : litems st x = some xs) : ∃ a vs, v = .ref a ∧ SqL K H a vs ∧ RVs K F vs xs := by
  cases x with
  | d z =>
    cases z with
    | list ds => cases h; cases r with | d r => cases r with | lst q s => exact ⟨_, _, rfl, SqL.mono (Rs.ex F H st R) q, s.rvs⟩
    | _ => cases h
  | t ys => cases h
  | r a =>
    cases r
    unfold litems at h
    simp only at h
    cases e : st a with
    | none => rw [e] at h; cases h
    | some m =>
      rw [e] at h
      cases m with
      | lst ys =>
        cases h
        obtain ⟨vs, q, s⟩ := R.ok a _ e
        exact ⟨a, vs, rfl, SqL.of q, s⟩
      | dK _ => cases h
      | dT _ => cases h
      | ins _ _ => cases h
      | lk _ _ _ => cases h
      | xd _ => cases h
theorem sitems_rv {xs : List DV} (R : Rs K F H st) (r : RV K F v x) (h : sitems st x = some xs) : ∃ a vs, v = .ref a ∧ (SqL K H a vs ∨ SqT K H a vs) ∧ RVs K F vs xs := by
  unfold sitems at h
  cases e : titems x with
  | some l =>
    rw [e] at h
    cases h
    obtain ⟨a, vs, e1, q, s⟩ := titems_rv r e
    exact ⟨a, vs, e1, .inr (SqT.of (R.sub _ _ q).1), s⟩
  | none =>
    rw [e] at h
    obtain ⟨a, vs, e1, q, s⟩ := litems_rv R r h
    exact ⟨a, vs, e1, .inl q, s⟩
theorem fz_dp {d : PyData} (R : Rs K F H st) (r : RV K F v x) (h : fz st x = some d) : Dp K H v d := by
  cases x with
  | d z => cases h; cases r with | d r => exact r.dp (Rs.ex F H st R)
  | t ys => cases h
  | r a =>
    cases r
    unfold fz at h
    simp only at h
    cases e : st a with
    | none => rw [e] at h; cases h
    | some m =>
      rw [e] at h
      cases m with
      | lst ys =>
        simp only at h
        cases e2 : datas ys with
        | none => rw [e2] at h; cases h
        | some ds =>
          rw [e2] at h
          cases h
          have e3 := datas_eq e2
          subst e3
          obtain ⟨vs, q, s⟩ := R.ok a _ e
          exact .lst (SqL.of q) (s.all.dp (Rs.ex F H st R))
      | dK _ => cases h
      | dT _ => cases h
      | ins _ _ => cases h
      | lk _ _ _ => cases h
      | xd _ => cases h
/-- + -/
def qAdd (m : Bool) : R2D := fun x y st Q => match x, y with
  | .d (.int i), .d (.int j) => Q (.d (.int (i + j))) st
  | .d (.str a), .d (.str b) => a.length + b.length ≤ sizeLine ∧ Q (.d (.str (a ++ b))) st
  | _, _ => match titems x, titems y with
    | some a, some b => a.length + b.length ≤ sizeLine ∧ Q (mkT (a ++ b)) st
    | _, _ => match litems st x, litems st y with
      | some a, some b => a.length + b.length ≤ sizeLine ∧ newL m (a ++ b) st Q
      | _, _ => False
variable {X : Cx}
theorem op_qAdd (m : Bool) : ∃ r', OpR X (binaryOp .Add) r' ∧ S2 X.K r' (qAdd m) := by
  refine ⟨_, OpR.or2 (OpR.or2 op_add op_add_str) (OpR.or2 op_catA op_catL), ?_⟩
  intro F H st v w x y Qd Q R rv rw' h kk
  unfold qAdd at h
  split at h
  · cases rv_int rv; cases rv_int rw'
    exact .inl (.inl ⟨_, _, rfl, rfl, kk.at R (.d (.int _)) h⟩)
  · cases rv_str rv; cases rv_str rw'
    exact .inl (.inr ⟨_, _, rfl, rfl, h.1, kk.at R (.d (.str _)) h.2⟩)
  · refine .inr ?_
    split at h
    · rename_i a b ea eb
      obtain ⟨p, vs, rfl, q1, s1⟩ := titems_rv rv ea
      obtain ⟨p2, ws, rfl, q2, s2⟩ := titems_rv rw' eb
      have hl := s1.length
      have hl2 := s2.length
      refine .inl ⟨p, p2, vs, ws, rfl, rfl, SqT.of (R.sub _ _ q1).1, SqT.of (R.sub _ _ q2).1, by omega, fun e => ?_, fun _ e => ?_, fun _ _ p hp => new_tup R (s1.append s2) hp h.2 kk⟩
      · subst e
        cases s1
        exact kk.at R (mkT_rv q2 s2) h.2
      · subst e
        cases s2
        rw [List.append_nil] at h
        exact kk.at R (mkT_rv q1 s1) h.2
    · split at h
      · rename_i a b ea eb
        obtain ⟨p, vs, rfl, q1, s1⟩ := litems_rv R rv ea
        obtain ⟨p2, ws, rfl, q2, s2⟩ := litems_rv R rw' eb
        have hl := s1.length
        have hl2 := s2.length
        exact .inr ⟨p, p2, vs, ws, rfl, rfl, q1, q2, by omega, fun p hp => new_lst R (s1.append s2) hp h.2 kk⟩
      · exact h.elim
/-- dints in, an int out -/
def qI2 (C : Int → Int → Prop) (g : Int → Int → Int) : R2D := fun x y st Q => match x, y with
  | .d (.int i), .d (.int j) => C i j ∧ Q (.d (.int (g i j))) st
  | _, _ => False
theorem qI2_out {C : Int → Int → Prop} {g : Int → Int → Int} {x y : DV} {st : Sto} {Q : DV → Sto → Prop} (h : qI2 C g x y st Q) : ∃ i j, x = .d (.int i) ∧ y = .d (.int j) ∧ C i j ∧ Q (.d (.int (g i j))) st := by
  unfold qI2 at h
  split at h
  · exact ⟨_, _, rfl, rfl, h⟩
  · exact h.elim
theorem s2_I2 {C : Int → Int → Prop} {g : Int → Int → Int} : S2 K (rI C fun i j => .int (g i j)) (qI2 C g) := fun F H st v w x y Qd Q R rv rw' h kk => by
  obtain ⟨i, j, e1, e2, hc, q⟩ := qI2_out h
  subst e1 e2
  cases rv_int rv; cases rv_int rw'
  exact ⟨i, j, rfl, rfl, hc, kk.at R (.d (.int _)) q⟩
theorem s2_I0 {g : Int → Int → Int} : S2 K (rI0 fun i j => .int (g i j)) (qI2 (fun _ _ => True) g) := fun F H st v w x y Qd Q R rv rw' h kk => by
  obtain ⟨i, j, e1, e2, hc, q⟩ := qI2_out h
  subst e1 e2
  cases rv_int rv; cases rv_int rw'
  exact ⟨i, j, rfl, rfl, kk.at R (.d (.int _)) q⟩
def qSub : R2D := qI2 (fun _ _ => True) fun i j => i - j
def CMulA (i j : Int) : Prop := CMul i j ∨ CMulW i j
def qMul (m : Bool) : R2D := fun x y st Q => match x, y with
  | .d (.int i), .d (.int j) => CMulA i j ∧ Q (.d (.int (i * j))) st
  | _, .d (.int k) => match titems x with
    | some a => a ≠ [] ∧ k ≤ 1000 ∧ -1000 ≤ k ∧ a.length ≤ 1000 ∧ Q (mkT (List.replicate k.toNat a).flatten) st
    | none => False
  | _, _ => False
theorem rep_rvs {vs : List V} {xs : List DV} (r : RVs K F vs xs) : ∀ n : Nat, RVs K F (List.replicate n vs).flatten (List.replicate n xs).flatten
  | 0 => .nil
  | n + 1 => by
    rw [List.replicate_succ, List.replicate_succ, List.flatten_cons, List.flatten_cons]
    exact r.append (rep_rvs r n)
theorem op_qMul (m : Bool) : ∃ r', OpR X (binaryOp .Mult) r' ∧ S2 X.K r' (qMul m) := by
  refine ⟨_, OpR.or2 (OpR.or2 op_mul op_mulW) op_repA, ?_⟩
  intro F H st v w x y Qd Q R rv rw' h kk
  unfold qMul at h
  split at h
  · cases rv_int rv; cases rv_int rw'
    rcases h.1 with hc | hc
    · exact .inl (.inl ⟨_, _, rfl, rfl, hc, kk.at R (.d (.int _)) h.2⟩)
    · exact .inl (.inr ⟨_, _, rfl, rfl, hc, kk.at R (.d (.int _)) h.2⟩)
  · cases rv_int rw'
    refine .inr ?_
    split at h
    · rename_i a ea
      obtain ⟨p, vs, rfl, q1, s1⟩ := titems_rv rv ea
      have hl := s1.length
      obtain ⟨h1, h2, h3, h4, h5⟩ := h
      refine ⟨p, _, vs, rfl, rfl, SqT.of (R.sub _ _ q1).1, fun e => h1 ?_, h2, h3, by omega, fun e => ?_, fun _ p hp => new_tup R (rep_rvs s1 _) hp h5 kk⟩
      · subst e
        cases s1
        rfl
      · subst e
        have e1 : (List.replicate (1 : Int).toNat a).flatten = a := by simp
        rw [e1] at h5
        exact kk.at R (mkT_rv q1 s1) h5
    · exact h.elim
  · exact h.elim
def CFd (i j : Int) : Prop := (j ≠ 0 ∧ j.natAbs < 1073741824) ∨ CDivW i j
def qFdiv : R2D := qI2 CFd fun i j => i.fdiv j
theorem op_qFdiv : ∃ r', OpR X (binaryOp .FloorDiv) r' ∧ S2 X.K r' qFdiv := by
  refine ⟨_, OpR.or2 op_fdivN op_fdivW, ?_⟩
  intro F H st v w x y Qd Q R rv rw' h kk
  obtain ⟨i, j, rfl, rfl, hc, q⟩ := qI2_out h
  cases rv_int rv; cases rv_int rw'
  rcases hc with hc | hc
  · exact .inl ⟨i, j, rfl, rfl, hc, kk.at R (.d (.int _)) q⟩
  · refine .inr ⟨i, j, rfl, rfl, hc, ?_⟩
    have h0 : (0 : Int) < j := hc.1
    show Q (V.int (i / j)) H
    rw [show i / j = i.fdiv j from (Int.fdiv_eq_ediv_of_nonneg i (by omega)).symm]
    exact kk.at R (.d (.int _)) q
def qMod : R2D := qI2 (fun _ j => j ≠ 0) fun i j => i.fmod j
theorem op_qMod : ∃ r', OpR X (binaryOp .Mod) r' ∧ S2 X.K r' qMod := ⟨_, op_modN, s2_I2⟩
def qPow : R2D := qI2 CPow fun i j => i ^ j.toNat
theorem op_qPow : ∃ r', OpR X (binaryOp .Pow) r' ∧ S2 X.K r' qPow := ⟨_, op_pow, s2_I2⟩
theorem op_qSub : ∃ r', OpR X (binaryOp .Sub) r' ∧ S2 X.K r' qSub := ⟨_, op_sub, s2_I0⟩
theorem de_bin {op : Operator} {a b : Expr} {pos : Pos} {ta tb : TD} {r : R2D} (ho : ∃ r', OpR X (binaryOp op) r' ∧ S2 X.K r' r) (ha : DE X a ta) (hb : DE X b tb) : DE X (.BinOp a op b pos) (qOp r ta tb) :=
  let ⟨_, h1, h2⟩ := ho; de_op h1 h2 ha hb
theorem de_cp {op : CmpOp} {a b : Expr} {pos : Pos} {ta tb : TD} {r : R2D} (ho : ∃ r', OpR X (compareOp op) r' ∧ S2 X.K r' r) (hm : behindInMarks op b = false) (ha : DE X a ta) (hb : DE X b tb) : DE X (.Compare a [op] [b] pos) (qOp r ta tb) :=
  let ⟨_, h1, h2⟩ := ho; de_cmp h1 h2 hm ha hb
theorem test_sg {te : TE} {t : TD} (a : Sg (RV K) K te t) : Sg relT K (fun σ H Q => te σ H fun z H1 => ∃ k, z = .bl k ∧ Q k H1) (qTest t) := fun F σ H ε st Qd Q R E h kk =>
  a.go R E h kk fun F1 H1 s1 v x R1 E1 rv q kk => by
    obtain ⟨b, rfl, q⟩ := onB_out q
    cases rv_bool rv
    exact ⟨b, rfl, kk.at R1 rfl q⟩
theorem dt_cp {op : CmpOp} {a b : Expr} {pos : Pos} {ta tb : TD} {r : R2D} (ho : ∃ r', OpR X (compareOp op) r' ∧ S2 X.K r' r) (hm : behindInMarks op b = false) (ha : DE X a ta) (hb : DE X b tb) : DT X (.Compare a [op] [b] pos) (qTest (qOp r ta tb)) := by
  obtain ⟨r', h1, h2⟩ := ho
  obtain ⟨te, pa, sa⟩ := ha
  obtain ⟨tf, pb, sb⟩ := hb
  exact ⟨⟨_, pt_cmpR h1 pa pb hm, test_sg (Sg.bin sa sb (fun _ _ _ _ e h => RV.mono e h) h2)⟩⟩
def qEq : R2D := fun x y st Q => match fz st x, fz st y with
  | some a, some b => SeqAt.shaped a = true ∧ SeqAt.shaped b = true ∧ Q (.d (.bool (PyData.eqv a b))) st
  | _, _ => False
def qNe : R2D := fun x y st Q => match fz st x, fz st y with
  | some a, some b => SeqAt.shaped a = true ∧ SeqAt.shaped b = true ∧ Q (.d (.bool (!PyData.eqv a b))) st
  | _, _ => False
theorem op_qEq (hu : X.A.units + 64 < cLine) : ∃ r', OpR X (compareOp .Eq) r' ∧ S2 X.K r' qEq :=
  ⟨_, op_eqD hu, fun F H st v w x y Qd Q R rv rw' h kk => by
    unfold qEq at h
    split at h
    · rename_i a b e1 e2
      exact ⟨a, b, fz_dp R rv e1, fz_dp R rw' e2, h.1, h.2.1, kk.at R (.d (.bl _)) h.2.2⟩
    · exact h.elim⟩
theorem op_qNe (hu : X.A.units + 64 < cLine) : ∃ r', OpR X (compareOp .NotEq) r' ∧ S2 X.K r' qNe :=
  ⟨_, op_neD hu, fun F H st v w x y Qd Q R rv rw' h kk => by
    unfold qNe at h
    split at h
    · rename_i a b e1 e2
      exact ⟨a, b, fz_dp R rv e1, fz_dp R rw' e2, h.1, h.2.1, kk.at R (.d (.bl _)) h.2.2⟩
    · exact h.elim⟩
def dints : List DV → Option (List Int)
  | [] => some []
  | .d (.int i) :: r => (dints r).map (i :: ·)
  | _ :: _ => none
theorem dints_rvs : ∀ {vs : List V} {xs : List DV} {ns : List Int}, RVs K F vs xs → dints xs = some ns → vs = ns.map V.int ∧ xs = ns.map fun i => .d (.int i)
  | _, [], ns, r, h => by cases h; cases r; exact ⟨rfl, rfl⟩
  | v :: vs, .d (.int i) :: xs, ns, .cons r q, h => by
    cases e : dints xs with
    | none => simp [dints, e] at h
    | some l =>
      simp [dints, e] at h
      subst h
      obtain ⟨h1, h2⟩ := dints_rvs q e
      cases rv_int r
      exact ⟨by rw [h1]; rfl, by rw [h2]; rfl⟩
theorem dints_map : ∀ l : List Int, dints (l.map fun i => .d (.int i)) = some l
  | [] => rfl
  | i :: r => by simp [dints, dints_map r]
def qCmpI (g : Int → Int → Bool) : R2D := fun x y st Q => match x, y with
  | .d (.int i), .d (.int j) => Q (.d (.bool (g i j))) st
  | _, _ => False
theorem s2_cmpI {g : Int → Int → Bool} : S2 K (rI0 fun i j => .bl (g i j)) (qCmpI g) := fun F H st v w x y Qd Q R rv rw' h kk => by
  unfold qCmpI at h
  split at h
  · cases rv_int rv; cases rv_int rw'
    exact ⟨_, _, rfl, rfl, kk.at R (.d (.bl _)) h⟩
  · exact h.elim
def qLt : R2D := fun x y st Q => match x, y with
  | .d (.int i), .d (.int j) => Q (.d (.bool (decide (i < j)))) st
  | _, _ => match (titems x).bind dints, (titems y).bind dints with
    | some ns, some ms => Q (.d (.bool (HT.lexLt ns ms))) st
    | _, _ => False
def qLe : R2D := qCmpI fun i j => decide (i ≤ j)
def qGt : R2D := qCmpI fun i j => decide (j < i)
def qGe : R2D := qCmpI fun i j => decide (j ≤ i)
theorem op_qLe : ∃ r', OpR X (compareOp .LtE) r' ∧ S2 X.K r' qLe := ⟨_, op_le, s2_cmpI⟩
theorem op_qGt : ∃ r', OpR X (compareOp .Gt) r' ∧ S2 X.K r' qGt := ⟨_, op_gt, s2_cmpI⟩
theorem op_qGe : ∃ r', OpR X (compareOp .GtE) r' ∧ S2 X.K r' qGe := ⟨_, op_ge, s2_cmpI⟩
/-- is None -/
def isN : DV → Bool
  | .d .none => true
  | _ => false
def qIsN : R2D := fun x y st Q => y = .d .none ∧ Q (.d (.bool (isN x))) st
def qNotN : R2D := fun x y st Q => y = .d .none ∧ Q (.d (.bool (!isN x))) st
/-- unary minus -/
def qNeg : R1D := fun x st Q => match x with | .d (.int i) => Q (.d (.int (-i))) st | _ => False
theorem de_neg {a : Expr} {pos : Pos} {ta : TD} (ha : DE X a ta) : DE X (.UnaryOp .USub a pos) (qUn qNeg ta) :=
  de_un un_neg (fun F H st v x Qd Q R rv h kk => by
    unfold qNeg at h
    split at h
    · cases rv_int rv; exact ⟨_, rfl, kk.at R (.d (.int _)) h⟩
    · exact h.elim) ha
theorem atI_rv {vs : List V} {xs : List DV} {i : Int} {x : DV} (r : RVs K F vs xs) (h : atI xs i = some x) : ∃ v, atI vs i = some v ∧ RV K F v x := by
  unfold atI at h ⊢
  rw [r.length]
  cases e : ixN xs.length i with
  | none => rw [e] at h; cases h
  | some j =>
    rw [e] at h
    exact r.get' h
def qIx : R2D := fun x y st Q => match y with
  | .d (.int i) => match x with
    | .d (.str z) => z.length ≤ sizeLine ∧ (match atI z.cps.toList i with | some c => Q (.d (.str ⟨#[c]⟩)) st | none => False)
    | _ => match sitems st x with
      | some xs => (match atI xs i with | some z => Q z st | none => False)
      | none => False
  | _ => False
theorem de_ix {a b : Expr} {pos : Pos} {ta tb : TD} (ha : DE X a ta) (hb : DE X b tb) (hs : PlainIx b) : DE X (.Subscript a b pos) (qOp qIx ta tb) := by
  obtain ⟨te, pa, sa⟩ := ha
  obtain ⟨tf, pb, sb⟩ := hb
  refine ⟨⟨_, pe_ix ix_seq pa pb hs, Sg.bin sa sb (fun _ _ _ _ e h => RV.mono e h) ?_⟩⟩
  intro F H st v w x y Qd Q R rv rw' h kk
  unfold qIx at h
  split at h
  · cases rv_int rw'
    split at h
    · cases rv_str rv
      obtain ⟨h1, h⟩ := h
      split at h
      · rename_i c h2
        exact .inr (.inr ⟨_, _, c, rfl, rfl, h1, h2, kk.at R (.d (.str _)) h⟩)
      · exact h.elim
    · split at h
      · rename_i xs es
        split at h
        rotate_left
        · exact h.elim
        rename_i z ez
        have q := h
        obtain ⟨p, vs, rfl, hq, s⟩ := sitems_rv R rv es
        obtain ⟨u, eu, ru⟩ := atI_rv s ez
        rcases hq with hq | hq
        · exact .inl ⟨p, vs, _, u, rfl, rfl, hq, eu, kk.at R ru q⟩
        · exact .inr (.inl ⟨p, vs, _, u, rfl, rfl, hq, eu, kk.at R ru q⟩)
      · exact h.elim
  · exact h.elim
/-- parts of a slice -/
abbrev relO : Hp → Option Int → Option Int → Prop := fun _ a b => a = b
structure DO (X : Cx) (e : Option Expr) (t : Env → Sto → (Option Int → Sto → Prop) → Prop) : Prop where
  ex : ∃ te, PO X e te ∧ Sg relO X.K te t
def qNoPart : Env → Sto → (Option Int → Sto → Prop) → Prop := fun _ st Q => Q none st
def qPart (ta : TD) : Env → Sto → (Option Int → Sto → Prop) → Prop := fun ε st Q => ta ε st fun x s1 => match x with | .d (.int i) => Q (some i) s1 | _ => False
theorem do_none : DO X none qNoPart := ⟨⟨_, po_none, fun F σ H ε st Qd Q R E q kk => kk.at R rfl q⟩⟩
theorem do_some {e : Expr} {ta : TD} (h : DE X e ta) : DO X (some e) (qPart ta) := by
  obtain ⟨te, pa, sa⟩ := h
  refine ⟨⟨_, po_some pa, fun F σ H ε st Qd Q R E h kk => sa.go R E h kk fun F1 H1 s1 v x R1 E1 rv q kk => ?_⟩⟩
  split at q
  · cases rv_int rv
    exact ⟨_, rfl, kk.at R1 rfl q⟩
  · exact q.elim
def cutD {α : Type} (xs : List α) (lo hi : Option Int) : List α := (xs.drop (HT.sIx xs.length 0 lo)).take (HT.sIx xs.length xs.length hi - HT.sIx xs.length 0 lo)
theorem cut_rvs {vs : List V} {xs : List DV} (r : RVs K F vs xs) (lo hi : Option Int) : RVs K F (cutV vs lo hi) (cutD xs lo hi) := by
  unfold cutV cutD
  rw [r.length]
  exact (r.drop _).take _
theorem cutD_map {α β : Type} (f : α → β) (xs : List α) (lo hi : Option Int) : cutD (xs.map f) lo hi = (cutD xs lo hi).map f := by
  unfold cutD
  rw [List.length_map, List.map_take, List.map_drop]
def qSl (m : Bool) (te : TD) (tl th : Env → Sto → (Option Int → Sto → Prop) → Prop) : TD := fun ε st Q => te ε st fun x s1 => tl ε s1 fun lo s2 => th ε s2 fun hi s3 => match x with
  | .d (.str z) => z.length ≤ sizeLine ∧ Q (.d (.str (cutS z lo hi))) s3
  | _ => match titems x with
    | some xs => Q (mkT (cutD xs lo hi)) s3
    | none => match litems s3 x with
      | some xs => newL m (cutD xs lo hi) s3 Q
      | none => False
theorem de_sl {e : Expr} {lo hi : Option Expr} {p2 pos : Pos} {te : TD} {tl th : Env → Sto → (Option Int → Sto → Prop) → Prop} (m : Bool) (he : DE X e te) (hl : DO X lo tl) (hh : DO X hi th) : DE X (.Subscript e (.Slice lo hi none p2) pos) (qSl m te tl th) := by
  obtain ⟨t1, pa, sa⟩ := he
  obtain ⟨t2, pb, sb⟩ := hl
  obtain ⟨t3, pc, sc⟩ := hh
  refine ⟨⟨_, pe_slice (SlR.or (SlR.or sl_list sl_tupA) sl_str) pa pb pc, fun F σ H ε st Qd Q R E h kk => ?_⟩⟩
  refine sa.go R E h kk fun F1 H1 s1 v x R1 E1 rv h kk => ?_
  refine sb F1 σ H1 ε s1 _ _ R1 E1 h fun F2 l H2 l' s2 t2 R2 rl h => ?_
  refine sc F2 σ H2 ε s2 _ _ R2 (E1.mono t2.ex) h fun F3 u H3 u' s3 t3 R3 ru h => ?_
  cases rl; cases ru
  have rv3 := rv.mono (t2.trans t3).ex
  have kk3 : Kg (RV X.K) X.K F3 H3 s3 Qd Q := fun F4 z H4 z' s4 t4 R4 rz q4 => kk F4 z H4 z' s4 ((t2.trans t3).trans t4) R4 rz q4
  split at h
  · cases rv_str rv
    exact .inr ⟨_, rfl, h.1, kk3.at R3 (.d (.str _)) h.2⟩
  · split at h
    · rename_i xs ex
      obtain ⟨p, vs, rfl, q1, s1⟩ := titems_rv rv3 ex
      refine .inl (.inr ⟨p, vs, rfl, SqT.of (R3.sub _ _ q1).1, fun hw => ?_, fun _ p hp => new_tup R3 (cut_rvs s1 _ _) hp h kk3⟩)
      refine kk3.at R3 ?_ h
      have e : cutD xs l u = xs := by
        unfold cutD
        rw [← s1.length]
        rw [hw.1, hw.2, List.drop_zero, Nat.sub_zero, s1.length, List.take_length]
      rw [e]
      exact mkT_rv q1 s1
    · split at h
      · rename_i xs ex
        obtain ⟨p, vs, rfl, q1, s1⟩ := litems_rv R3 rv3 ex
        exact .inl (.inl ⟨p, vs, rfl, q1, fun p hp => new_lst R3 (cut_rvs s1 _ _) hp h kk3⟩)
      · exact h.elim
end
end DL
end
section
set_option Elab.async false
set_option linter.all false
set_option maxRecDepth 100000
set_option maxHeartbeats 4000000
namespace DL
open PySem L2 PyProof.Rows
variable [tB : Tb] [gR : Gr]
structure EndsD where
  nx : Env → Sto → Prop
  rt : DV → Sto → Prop
  bk : Env → Sto → Prop := fun _ _ => False
  ct : Env → Sto → Prop := fun _ _ => False
abbrev TDs := EndsD → Env → Sto → Prop
abbrev TDg := DV → Env → Sto → (Env → Sto → Prop) → Prop
abbrev TDgs := List DV → Env → Sto → (Env → Sto → Prop) → Prop
abbrev TDi := Env → Sto → (List DV → (Sto → Prop) → Sto → Prop) → Prop
def KE (K : PySem.W.Frag) (F H : Hp) (st : Sto) (Dn : Env → Sto → Prop) (N : L2.St → Hp → Prop) : Prop :=
  ∀ F' σ' H' ε' st', Step F H st F' H' st' → Rs K F' H' st' → RE K F' σ' ε' → Dn ε' st' → N σ' H'
structure KS (K : PySem.W.Frag) (F H : Hp) (st : Sto) (Dd : EndsD) (D : Ends) : Prop where
  nx : KE K F H st Dd.nx D.nx
  rt : Kg (RV K) K F H st Dd.rt D.rt
  bk : KE K F H st Dd.bk D.bk
  ct : KE K F H st Dd.ct D.ct
theorem KE.step {K : PySem.W.Frag} {F H F1 H1 : Hp} {st st1 : Sto} {Dn : Env → Sto → Prop} {N : L2.St → Hp → Prop} (k : KE K F H st Dn N) (t : Step F H st F1 H1 st1) : KE K F1 H1 st1 Dn N :=
  fun F' σ' H' ε' st' s R E q => k F' σ' H' ε' st' (t.trans s) R E q
theorem Kg.step {α β : Type} {rel : Hp → α → β → Prop} {K : PySem.W.Frag} {F H F1 H1 : Hp} {st st1 : Sto} {Qd : β → Sto → Prop} {Q : α → Hp → Prop} (k : Kg rel K F H st Qd Q) (t : Step F H st F1 H1 st1) : Kg rel K F1 H1 st1 Qd Q :=
  fun F' v H' x st' s R r q => k F' v H' x st' (t.trans s) R r q
theorem KS.step {K : PySem.W.Frag} {F H F1 H1 : Hp} {st st1 : Sto} {Dd : EndsD} {D : Ends} (k : KS K F H st Dd D) (t : Step F H st F1 H1 st1) : KS K F1 H1 st1 Dd D :=
  ⟨k.nx.step t, k.rt.step t, k.bk.step t, k.ct.step t⟩
theorem KE.at {K : PySem.W.Frag} {F H : Hp} {st : Sto} {σ : L2.St} {ε : Env} {Dn : Env → Sto → Prop} {N : L2.St → Hp → Prop} (k : KE K F H st Dn N) (R : Rs K F H st) (E : RE K F σ ε) (q : Dn ε st) : N σ H :=
  k F σ H ε st (Step.refl _ _ _) R E q
def SS (K : PySem.W.Frag) (ts : TS) (t : TDs) : Prop := ∀ F σ H ε st Dd D, Rs K F H st → RE K F σ ε → t Dd ε st → KS K F H st Dd D → ts D σ H
structure DS (X : Cx) (s : Stmt) (t : TDs) : Prop where
  ex : ∃ ts, PS X s ts ∧ SS X.K ts t
structure DSs (X : Cx) (s : List Stmt) (t : TDs) : Prop where
  ex : ∃ ts, PSs X s ts ∧ SS X.K ts t
structure DG (X : Cx) (tg : Expr) (ws : List Nat) (t : TDg) : Prop where
  ex : ∃ g, PG X tg g ∧ ∀ F σ H ε st v x Qd Q, Rs X.K F H st → RE X.K F σ ε → RV X.K F v x → t x ε st Qd →
    (∀ F' σ' H' ε' st', Step F H st F' H' st' → Rs X.K F' H' st' → RE X.K F' σ' ε' → (∀ vs : List Nat, (∀ i ∈ ws, i ∈ vs) → wipe σ' vs = wipe σ vs) → Qd ε' st' → Q σ' H') → g v σ H Q
structure DGs (X : Cx) (tg : List Expr) (ws : List Nat) (t : TDgs) : Prop where
  ex : ∃ g, PGs X tg g ∧ ∀ F σ H ε st v x Qd Q, Rs X.K F H st → RE X.K F σ ε → RVs X.K F v x → t x ε st Qd →
    (∀ F' σ' H' ε' st', Step F H st F' H' st' → Rs X.K F' H' st' → RE X.K F' σ' ε' → (∀ vs : List Nat, (∀ i ∈ ws, i ∈ vs) → wipe σ' vs = wipe σ vs) → Qd ε' st' → Q σ' H') → g v σ H Q
/-- what an iterator of these items does -/
def Src (K : PySem.W.Frag) (F0 : Hp) (J : It) (items : List DV) (inv : Sto → Prop) : Prop := ∀ F H st, (∀ a o, F0 a = some o → F a = some o) → Rs K F H st → inv st →
  (∀ i x, items[i]? = some x → J.go i H ∧ ∀ v H', J.yld i H v H' → ∃ F', Step F H st F' H' st ∧ Rs K F' H' st ∧ RV K F' v x) ∧ J.stop items.length H
structure DI (X : Cx) (tg iter : Expr) (t : TDi) : Prop where
  ex : ∃ wi, PI X tg iter wi ∧ ∀ F σ H ε st Qd R', Rs X.K F H st → RE X.K F σ ε → t ε st Qd →
    (∀ F' J H' items inv st', Step F H st F' H' st' → Rs X.K F' H' st' → Src X.K F' J items inv → Qd items inv st' → R' J H') → wi σ H R'
section
variable {P : Program} {w : World} {K : PySem.W.Frag} {mg : Str → Option Value} {base : Heap} {X : Cx} {N : List Str} {sc fs : Scope} {k : Nat}
def qSeq (t u : TDs) : TDs := fun D ε st => t { D with nx := u D } ε st
def qNext : TDs := fun D ε st => D.nx ε st
theorem ds_nil : DSs X [] qNext := ⟨⟨_, pss_nil, fun F σ H ε st Dd D R E h kk => kk.nx.at R E h⟩⟩
theorem ds_cons {s : Stmt} {r : List Stmt} {t u : TDs} (h : DS X s t) (hr : DSs X r u) : DSs X (s :: r) (qSeq t u) := by
  obtain ⟨ts, p, a⟩ := h
  obtain ⟨us, q, b⟩ := hr
  refine ⟨⟨_, pss_cons p q, fun F σ H ε st Dd D R E h kk => ?_⟩⟩
  exact a F σ H ε st _ _ R E h ⟨fun F' σ' H' ε' st' s R' E' q => b F' σ' H' ε' st' _ _ R' E' q (kk.step s), kk.rt, kk.bk, kk.ct⟩
theorem ds_one {s : Stmt} {t : TDs} (h : DS X s t) : DSs X [s] t := let ⟨ts, p, a⟩ := h.ex; ⟨⟨ts, pss_one p, a⟩⟩
def qNever : TDs := fun _ _ _ => False
theorem ds_never {s : Stmt} : DS X s qNever := ⟨⟨_, ps_never, fun F σ H ε st Dd D R E h kk => h.elim⟩⟩
def qDrop (te : TD) : TDs := fun D ε st => te ε st fun _ s1 => D.nx ε s1
theorem ds_expr {e : Expr} {te : TD} {pos : Pos} (h : DE X e te) (hs : swapsWith e none pos.line X.env = pure false := by rfl) : DS X (.Expr e pos) (qDrop te) := by
  obtain ⟨t1, p, a⟩ := h
  refine ⟨⟨_, ps_expr p hs, fun F σ H ε st Dd D R E h kk => ?_⟩⟩
  exact a F σ H ε st _ _ R E h fun F' v H' x st' s R' r q => kk.nx F' σ H' ε st' s R' (E.mono s.ex) q
def qRet (te : TD) : TDs := fun D ε st => te ε st D.rt
theorem ds_ret {e : Expr} {te : TD} {pos : Pos} (h : DE X e te) : DS X (.Return (some e) pos) (qRet te) := by
  obtain ⟨t1, p, a⟩ := h
  exact ⟨⟨_, ps_ret p, fun F σ H ε st Dd D R E h kk => a F σ H ε st _ _ R E h kk.rt⟩⟩
def qRetN : TDs := fun D _ st => D.rt (.d .none) st
def qIfS (c : TDt) (t u : TDs) : TDs := fun D ε st => c ε st fun b s1 => if b = true then t D ε s1 else u D ε s1
theorem ds_if {c : Expr} {a b : List Stmt} {pos : Pos} {tc : TDt} {t u : TDs} (hc : DT X c tc) (ha : DSs X a t) (hb : DSs X b u) : DS X (.If c a b pos) (qIfS tc t u) := by
  obtain ⟨t0, p0, a0⟩ := hc
  obtain ⟨t1, p1, a1⟩ := ha
  obtain ⟨t2, p2, a2⟩ := hb
  refine ⟨⟨_, ps_if p0 p1 p2, fun F σ H ε st Dd D R E h kk => ?_⟩⟩
  refine a0 F σ H ε st _ _ R E h fun F' v H' x st' s R' r q => ?_
  cases r
  cases v with
  | true => exact a1 F' σ H' ε st' _ _ R' (E.mono s.ex) q (kk.step s)
  | false => exact a2 F' σ H' ε st' _ _ R' (E.mono s.ex) q (kk.step s)
theorem wipe_set {σ : L2.St} {i : Nat} {v : Option V} : ∀ {vs : List Nat}, i ∈ vs → wipe (σ.set i v) vs = wipe σ vs := by
  have comm : ∀ {vs : List Nat} {i : Nat} {σ : L2.St} {v : Option V}, i ∉ vs → wipe (σ.set i v) vs = (wipe σ vs).set i v := by
    intro vs
    induction vs with
    | nil => intros; rfl
    | cons j vs ih =>
      intro i σ v h
      have h1 : i ≠ j := fun e => h (by rw [e]; exact List.mem_cons_self)
      have h2 : i ∉ vs := fun e => h (List.mem_cons_of_mem _ e)
      show (wipe (σ.set i v) vs).set j none = ((wipe σ vs).set j none).set i v
      rw [ih h2, List.set_comm _ _ h1]
  intro vs
  induction vs with
  | nil => intro h; cases h
  | cons j vs ih =>
    intro h
    show (wipe (σ.set i v) vs).set j none = (wipe σ vs).set j none
    by_cases e : i ∈ vs
    · rw [ih e]
    · have e2 : i = j := by
        rcases List.mem_cons.mp h with q | q
        · exact q
        · exact absurd q e
      rw [comm e, ← e2, List.set_set]
def qgN (i : Nat) : TDg := fun x ε st Q => Q (ε.set i (some x)) st
theorem loc_of {i : Nat} {x : Str} (c : Cok P w K mg base X N sc fs k) (h : locB N sc fs i x = true) : X.N[i]? = some x ∧ L2.Loc X.env.scope x ∧ (X.fn x = true ∨ X.env.scope.names.lookup x = some .local) := by
  unfold locB at h
  simp only [Bool.and_eq_true, decide_eq_true_eq] at h
  obtain ⟨h1, h2⟩ := h
  refine ⟨by rw [c.hN]; exact h1, ?_, ?_⟩
  · unfold L2.Loc
    rw [c.hs]
    split at h2 <;> first | exact .inl (by assumption) | exact .inr (by assumption) | cases h2
  · rw [c.hs]
    split at h2
    · exact .inr (by assumption)
    · split at h2
      · exact .inl (c.fn _ (by assumption))
      · cases h2
    · cases h2
theorem dg_name {i : Nat} {x : Str} {pos : Pos} (c : Cok P w K mg base X N sc fs k) (h : locB N sc fs i x = true) : DG X (.Name x pos) [i] (qgN i) := by
  obtain ⟨h1, h2, h3⟩ := loc_of c h
  refine ⟨⟨gName i, pg_name (by rw [c.hN]; exact c.nd) h1 h2 h3, fun F σ H ε st v x Qd Q R E r q kk => ?_⟩⟩
  exact kk F _ H _ st (Step.refl _ _ _) R (E.set r i) (fun vs hv => wipe_set (hv i (by simp))) q
def qgNil : TDgs := fun vs ε st Q => vs = [] ∧ Q ε st
def qgCons (t : TDg) (u : TDgs) : TDgs := fun vs ε st Q => match vs with | [] => False | v :: r => t v ε st fun ε' s' => u r ε' s' Q
theorem dgs_nil : DGs X [] [] qgNil := ⟨⟨_, pgs_nil, fun F σ H ε st v x Qd Q R E r ⟨e, q⟩ kk => by
  subst e
  cases r
  exact ⟨rfl, kk F σ H ε st (Step.refl _ _ _) R E (fun _ _ => rfl) q⟩⟩⟩
theorem dgs_cons {e : Expr} {es : List Expr} {w1 w2 : List Nat} {t : TDg} {u : TDgs} (h : DG X e w1 t) (hr : DGs X es w2 u)
    (hs : (assignEach (e :: es) X.env).map (·.2) = assign e X.env :: (assignEach es X.env).map (·.2) := by rfl) : DGs X (e :: es) (w1 ++ w2) (qgCons t u) := by
  obtain ⟨g, p, a⟩ := h
  obtain ⟨gs, q, b⟩ := hr
  refine ⟨⟨_, pgs_cons p q hs, fun F σ H ε st v x Qd Q R E r h kk => ?_⟩⟩
  cases r with
  | nil => exact h.elim
  | cons r rr =>
    refine ⟨_, _, rfl, a F σ H ε st _ _ _ _ R E r h fun F1 σ1 H1 ε1 st1 s1 R1 E1 w1' h1 => ?_⟩
    exact b F1 σ1 H1 ε1 st1 _ _ _ _ R1 E1 (rr.mono s1.ex) h1 fun F2 σ2 H2 ε2 st2 s2 R2 E2 w2' h2 =>
      kk F2 σ2 H2 ε2 st2 (s1.trans s2) R2 E2 (fun vs hv => (w2' vs fun i hi => hv i (List.mem_append_right _ hi)).trans (w1' vs fun i hi => hv i (List.mem_append_left _ hi))) h2
def qgT (n : Nat) (t : TDgs) : TDg := fun x ε st Q => match titems x with | some xs => xs.length = n ∧ t xs ε st Q | none => False
theorem dg_tup {es : List Expr} {j : Nat} {pos : Pos} {ws : List Nat} {n : Nat} {t : TDgs} (c : Cok P w K mg base X N sc fs k) (h : DGs X es ws t) (hn : (assignEach es X.env).length = n := by rfl) (hst : (assignEach es X.env).findIdx? (·.1) = none := by rfl) : DG X (.Tuple es j pos) ws (qgT n t) := by
  obtain ⟨g, p, a⟩ := h
  refine ⟨⟨_, pg_tup c.calm p hn hst, fun F σ H ε st v x Qd Q R E r h kk => ?_⟩⟩
  unfold qgT at h
  split at h
  · rename_i xs ex
    obtain ⟨b, vs, rfl, q1, s1⟩ := titems_rv r ex
    exact ⟨b, vs, rfl, SqT.of (R.sub _ _ q1).1, s1.length.trans h.1, a F σ H ε st vs xs Qd Q R E s1 h.2 kk⟩
  · exact h.elim
def qAsg (te : TD) (g : TDg) : TDs := fun D ε st => te ε st fun x s1 => g x ε s1 D.nx
/-- an environment that bears a scope alone, for the looks at stores -/
def envS (sc : Scope) : PySem.Env := { scope := sc, locals := 0, globals := 0, cells := [], qual := Str.empty, func := none, code := .none, frame := none, builtins := 0 }
theorem kindOf_S (c : Cok P w K mg base X N sc fs k) : ∀ x, X.env.kindOf x = (envS sc).kindOf x := fun x => by
  unfold PySem.Env.kindOf
  rw [c.hs]
  rfl
theorem blockKind_S (c : Cok P w K mg base X N sc fs k) : X.env.blockKind = (envS sc).blockKind := by
  unfold PySem.Env.blockKind
  rw [c.hs]
  rfl
theorem swapped_S (c : Cok P w K mg base X N sc fs k) (ts : List Expr) (v : Expr) : swappedStores ts v X.env = swappedStores ts v (envS sc) := by
  unfold swappedStores
  simp only [kindOf_S c, blockKind_S c]
theorem swaps_S (c : Cok P w K mg base X N sc fs k) (v : Expr) (t : Option Expr) (l : Nat) : swapsWith v t l X.env = swapsWith v t l (envS sc) := by
  unfold swapsWith
  simp only [kindOf_S c, blockKind_S c, c.hs]
  rfl
theorem swapsS_S (c : Cok P w K mg base X N sc fs k) (ts : List Expr) (v : Expr) (l : Nat) : swapsWithSole ts v l X.env = swapsWithSole ts v l (envS sc) := by
  unfold swapsWithSole
  split
  · exact swaps_S c _ _ _
  · rfl
theorem ds_asg {tg e : Expr} {pos : Pos} {ws : List Nat} {te : TD} {g : TDg} (c : Cok P w K mg base X N sc fs k) (he : DE X e te) (hg : DG X tg ws g) (hs : swapsWithSole [tg] e pos.line (envS sc) = pure false) (hw : swappedStores [tg] e (envS sc) = pure none) (h1 : (assignEach [tg] X.env).map (·.2) = [assign tg X.env] := by rfl) : DS X (.Assign [tg] e pos) (qAsg te g) := by
  obtain ⟨t1, p1, a1⟩ := he
  obtain ⟨t2, p2, a2⟩ := hg
  refine ⟨⟨_, ps_asg p1 p2 ((swapsS_S c _ _ _).trans hs) ((swapped_S c _ _).trans hw) h1, fun F σ H ε st Dd D R E h kk => ?_⟩⟩
  refine a1 F σ H ε st _ _ R E h fun F1 v H1 x st1 s1 R1 r q => ?_
  exact a2 F1 σ H1 ε st1 v x _ _ R1 (E.mono s1.ex) r q fun F2 σ2 H2 ε2 st2 s2 R2 E2 _ q2 => kk.nx F2 σ2 H2 ε2 st2 (s1.trans s2) R2 E2 q2
/-- a, b = x, y stored from the right -/
def qPar (i j : Nat) (ta : TDa) : TDs := fun D ε st => ta ε st fun xs s1 => match xs with | [x, y] => D.nx ((ε.set i (some x)).set j (some y)) s1 | _ => False
def parB (N : List Str) (sc : Scope) (i j : Nat) (x y : Str) : Bool := decide (N[i]? = some x) && decide (N[j]? = some y) && decide (i ≠ j) && decide (sc.names.lookup x = some .local) && decide (sc.names.lookup y = some .local)
theorem ds_par {i j : Nat} {x y : Str} {a b : Expr} {ta : TDa} {px py pt pos : Pos} {kt k2 pt2} (c : Cok P w K mg base X N sc fs k) (hb : parB N sc i j x y = true) (ha : DA X [a, b] ta)
    (hw : swappedStores [.Tuple [.Name x px, .Name y py] kt pt] (.Tuple [a, b] k2 pt2) (envS sc) = pure (some [x, y])) :
    DS X (.Assign [.Tuple [.Name x px, .Name y py] kt pt] (.Tuple [a, b] k2 pt2) pos) (qPar i j ta) := by
  unfold parB at hb
  simp only [Bool.and_eq_true, decide_eq_true_eq] at hb
  obtain ⟨⟨⟨⟨h1, h2⟩, h3⟩, h4⟩, h5⟩ := hb
  obtain ⟨t1, p1, a1⟩ := ha
  refine ⟨⟨_, ps_par c.calm (by rw [c.hN]; exact c.nd) (by rw [c.hN]; exact h1) (by rw [c.hN]; exact h2) h3 (by rw [c.hs]; exact h4) (by rw [c.hs]; exact h5) p1 ((swapped_S c _ _).trans hw), fun F σ H ε st Dd D R E h kk => ?_⟩⟩
  refine a1 F σ H ε st _ _ R E h fun F1 v H1 x st1 s1 R1 r q => ?_
  split at q
  · cases r with
    | cons r1 r =>
      cases r with
      | cons r2 r =>
        cases r
        exact ⟨_, _, rfl, kk.nx F1 _ H1 _ st1 s1 R1 (((E.mono s1.ex).set r1 i).set r2 j) q⟩
  · exact q.elim
def qPar3 (i j l : Nat) (ta : TDa) : TDs := fun D ε st => ta ε st fun xs s1 => match xs with | [x, y, z] => D.nx (((ε.set i (some x)).set j (some y)).set l (some z)) s1 | _ => False
def parB3 (N : List Str) (sc : Scope) (i j l : Nat) (x y z : Str) : Bool := parB N sc i j x y && parB N sc i l x z && parB N sc j l y z
theorem ds_par3 {i j l : Nat} {x y z : Str} {a b d : Expr} {ta : TDa} {px py pz pt pos : Pos} {kt k2 pt2} (c : Cok P w K mg base X N sc fs k) (hb : parB3 N sc i j l x y z = true) (ha : DA X [a, b, d] ta)
    (hw : swappedStores [.Tuple [.Name x px, .Name y py, .Name z pz] kt pt] (.Tuple [a, b, d] k2 pt2) (envS sc) = pure (some [x, y, z])) :
    DS X (.Assign [.Tuple [.Name x px, .Name y py, .Name z pz] kt pt] (.Tuple [a, b, d] k2 pt2) pos) (qPar3 i j l ta) := by
  unfold parB3 parB at hb
  simp only [Bool.and_eq_true, decide_eq_true_eq] at hb
  obtain ⟨⟨⟨⟨⟨⟨h1, h2⟩, h3⟩, h4⟩, h5⟩, ⟨⟨⟨⟨_, g2⟩, g3⟩, _⟩, g5⟩⟩, ⟨⟨⟨⟨_, _⟩, f3⟩, _⟩, _⟩⟩ := hb
  obtain ⟨t1, p1, a1⟩ := ha
  refine ⟨⟨_, ps_par3 c.calm (by rw [c.hN]; exact c.nd) (by rw [c.hN]; exact h1) (by rw [c.hN]; exact h2) (by rw [c.hN]; exact g2) h3 g3 f3 (by rw [c.hs]; exact h4) (by rw [c.hs]; exact h5) (by rw [c.hs]; exact g5) p1 ((swapped_S c _ _).trans hw), fun F σ H ε st Dd D R E h kk => ?_⟩⟩
  refine a1 F σ H ε st _ _ R E h fun F1 v H1 x st1 s1 R1 r q => ?_
  split at q
  · cases r with
    | cons r1 r =>
      cases r with
      | cons r2 r =>
        cases r with
        | cons r3 r =>
          cases r
          exact ⟨_, _, _, rfl, kk.nx F1 _ H1 _ st1 s1 R1 ((((E.mono s1.ex).set r1 i).set r2 j).set r3 l) q⟩
  · exact q.elim
/-- name op= e, ints -/
def qAug (i : Nat) (te : TD) (g : Int → Int → Int) : TDs := fun D ε st => match ε[i]? with
  | some (some (.d (.int a))) => te ε st fun y s1 => (match y with | .d (.int b) => D.nx (ε.set i (some (.d (.int (g a b))))) s1 | _ => False)
  | _ => False
theorem ds_aug {i : Nat} {x : Str} {e : Expr} {te : TD} {op : Operator} {g : Int → Int → Int} {pos' pos : Pos} (c : Cok P w K mg base X N sc fs k) (hb : locB N sc fs i x = true) (ho : PIp X op (ipI g)) (he : DE X e te) : DS X (.AugAssign (.Name x pos') op e pos) (qAug i te g) := by
  obtain ⟨h1, h2, h3⟩ := loc_of c hb
  obtain ⟨t1, p1, a1⟩ := he
  refine ⟨⟨_, ps_aug (by rw [c.hN]; exact c.nd) h1 h2 p1 ho h3, fun F σ H ε st Dd D R E h kk => ?_⟩⟩
  unfold qAug at h
  split at h
  · rename_i a e1
    obtain ⟨v, e2, r⟩ := E.2 i _ e1
    cases rv_int r
    refine ⟨_, e2, a1 F σ H ε st _ _ R E h fun F1 v H1 x st1 s1 R1 r1 q => ?_⟩
    split at q
    · cases rv_int r1
      exact ⟨a, _, rfl, rfl, kk.nx F1 _ H1 _ st1 s1 R1 ((E.mono s1.ex).set (.d (.int _)) i) q⟩
    · exact q.elim
  · exact h.elim
/-- the invariant W with its measure -/
def qWhile (c : TDt) (tb : TDs) : TDs := fun D ε st => ∃ W : Nat → Env → Sto → Prop, (∃ m, W m ε st) ∧ ∀ m ε st, W m ε st →
  c ε st fun b s1 => if b = true then tb { D with nx := fun ε' s' => ∃ m', m' < m ∧ W m' ε' s', ct := fun ε' s' => ∃ m', m' < m ∧ W m' ε' s', bk := D.nx } ε s1 else D.nx ε s1
theorem ds_while {e : Expr} {body : List Stmt} {pos : Pos} {tc : TDt} {tb : TDs} (c : Cok P w K mg base X N sc fs k) (hc : DT X e tc) (hb : DSs X body tb) : DS X (.While e body [] pos) (qWhile tc tb) := by
  obtain ⟨t0, p0, a0⟩ := hc
  obtain ⟨t1, p1, a1⟩ := hb
  refine ⟨⟨_, ps_while c.pass p0 p1, fun F σ H ε st Dd D R E h kk => ?_⟩⟩
  obtain ⟨W, ⟨m0, h0⟩, hW⟩ := h
  refine ⟨fun m σ' H' => ∃ F' ε' st', Step F H st F' H' st' ∧ Rs X.K F' H' st' ∧ RE X.K F' σ' ε' ∧ W m ε' st', ⟨m0, F, ε, st, Step.refl _ _ _, R, E, h0⟩, ?_⟩
  rintro m σ' H' ⟨F1, ε1, st1, s1, R1, E1, w1⟩
  refine a0 F1 σ' H' ε1 st1 _ _ R1 E1 (hW m ε1 st1 w1) fun F2 b H2 b' st2 s2 R2 r q => ?_
  cases r
  cases b with
  | true =>
    refine ⟨fun σ3 H3 => ∃ m', m' < m ∧ ∃ F3 ε3 st3, Step F H st F3 H3 st3 ∧ Rs X.K F3 H3 st3 ∧ RE X.K F3 σ3 ε3 ∧ W m' ε3 st3, fun σ3 H3 ⟨m', l, q⟩ => ⟨m', l, q⟩, ?_⟩
    have s12 := s1.trans s2
    refine a1 F2 σ' H2 ε1 st2 _ _ R2 (E1.mono s2.ex) q ⟨?_, (kk.step s12).rt, (kk.step s12).nx, ?_⟩
    · rintro F3 σ3 H3 ε3 st3 s3 R3 E3 ⟨m', l, w3⟩
      exact ⟨m', l, F3, ε3, st3, s12.trans s3, R3, E3, w3⟩
    · rintro F3 σ3 H3 ε3 st3 s3 R3 E3 ⟨m', l, w3⟩
      exact ⟨m', l, F3, ε3, st3, s12.trans s3, R3, E3, w3⟩
  | false => exact kk.nx F2 σ' H2 ε1 st2 (s1.trans s2) R2 (E1.mono s2.ex) q
def qLoop (inv : Sto → Prop) (g : TDg) (tb : TDs) (D : EndsD) : List DV → Env → Sto → Prop
  | [], ε, st => inv st ∧ D.nx ε st
  | x :: r, ε, st => inv st ∧ g x ε st fun ε1 s1 => tb { D with nx := qLoop inv g tb D r, ct := qLoop inv g tb D r, bk := D.nx } ε1 s1
def qFor (ti : TDi) (g : TDg) (tb : TDs) : TDs := fun D ε st => ti ε st fun items inv s1 => qLoop inv g tb D items ε s1
theorem qLoop_inv {inv : Sto → Prop} {g : TDg} {tb : TDs} {D : EndsD} {l : List DV} {ε : Env} {st : Sto} (h : qLoop inv g tb D l ε st) : inv st := by
  cases l with
  | nil => exact h.1
  | cons x r => exact h.1
theorem ds_for {tg iter : Expr} {body : List Stmt} {pos : Pos} {ws : List Nat} {ti : TDi} {g : TDg} {tb : TDs} (c : Cok P w K mg base X N sc fs k) (hi : DI X tg iter ti) (hg : DG X tg ws g) (hb : DSs X body tb) (hs : ∀ x, foldedSetIterable iter X.env x = pure x := by intro _; rfl) : DS X (.For tg iter body [] pos) (qFor ti g tb) := by
  obtain ⟨wi, p0, a0⟩ := hi
  obtain ⟨gg, p1, a1⟩ := hg
  obtain ⟨ts, p2, a2⟩ := hb
  refine ⟨⟨_, ps_for c.pass c.calm p0 p1 p2 hs, fun F σ H ε st Dd D R E h kk => ?_⟩⟩
  refine a0 F σ H ε st _ _ R E h fun F1 J H1 items inv st1 s1 R1 src q => ?_
  refine ⟨fun i m σ' H' => i ≤ items.length ∧ m = items.length - i ∧ ∃ F' ε' st', Step F1 H1 st1 F' H' st' ∧ Rs X.K F' H' st' ∧ RE X.K F' σ' ε' ∧ qLoop inv g tb Dd (items.drop i) ε' st',
    ⟨items.length, Nat.zero_le _, by omega, F1, ε, st1, Step.refl _ _ _, R1, E.mono s1.ex, by rw [List.drop_zero]; exact q⟩, ?_⟩
  rintro i m σ' H' ⟨hi, rfl, F2, ε2, st2, s2, R2, E2, q2⟩
  have iv := qLoop_inv q2
  obtain ⟨src1, src2⟩ := src F2 H' st2 s2.ex R2 iv
  have s12 := s1.trans s2
  by_cases hlt : i < items.length
  · have ed : items.drop i = items[i] :: items.drop (i + 1) := List.drop_eq_getElem_cons hlt
    rw [ed] at q2
    obtain ⟨go, yl⟩ := src1 i items[i] (List.getElem?_eq_getElem hlt)
    refine .inr ⟨go, fun σ' H' => ∃ F' ε' st', Step F1 H1 st1 F' H' st' ∧ Rs X.K F' H' st' ∧ RE X.K F' σ' ε' ∧ qLoop inv g tb Dd (items.drop (i + 1)) ε' st', fun σ3 H3 q3 => ⟨items.length - (i + 1), by omega, hlt, rfl, q3⟩, fun v H3 y => ?_⟩
    obtain ⟨F3, s3, R3, r3⟩ := yl v H3 y
    refine a1 F3 σ' H3 ε2 st2 v items[i] _ _ R3 (E2.mono s3.ex) r3 q2.2 fun F4 σ4 H4 ε4 st4 s4 R4 E4 _ q4 => ?_
    have s24 := s2.trans (s3.trans s4)
    refine a2 F4 σ4 H4 ε4 st4 _ _ R4 E4 q4 ⟨?_, (kk.step (s1.trans s24)).rt, (kk.step (s1.trans s24)).nx, ?_⟩
    · exact fun F5 σ5 H5 ε5 st5 s5 R5 E5 q5 => ⟨F5, ε5, st5, s24.trans s5, R5, E5, q5⟩
    · exact fun F5 σ5 H5 ε5 st5 s5 R5 E5 q5 => ⟨F5, ε5, st5, s24.trans s5, R5, E5, q5⟩
  · have e : i = items.length := by omega
    subst e
    rw [List.drop_length] at q2
    exact .inl ⟨src2, kk.nx F2 σ' H' ε2 st2 s12 R2 E2 q2.2⟩
theorem Step.hid {F H F' H' : Hp} {st st' : Sto} {p : Addr} {o : HO} (s : Step F H st F' H' st') (h : H p = some o) (f : F p = none) (e : st p = none) (ht : ∀ ts, o ≠ .tup ts := by intro _ z; cases z) (hn : NoTb o := by intro _ z; cases z) : H' p = some o ∧ F' p = none ∧ st' p = none := by
  obtain ⟨h1, h2⟩ := s.pres p o h hn e
  refine ⟨h1, ?_, h2⟩
  cases q : F' p with
  | none => rfl
  | some u =>
    rcases s.fnew p u q with z | z | z | ⟨ts, z⟩ | ⟨ps, z⟩
    · exact absurd f z
    · rw [h] at z; cases z
    · exact absurd e z
    · rw [h] at z
      cases z
      exact absurd rfl (ht ts)
    · rw [h] at z
      cases z
      exact absurd rfl (hn ps)
/-- a hidden list comes into sight -/
theorem seen_lst {F0 H0 F H : Hp} {st0 st : Sto} {p : Addr} {vs : List V} {xs : List DV} {m : Bool} {Qd : DV → Sto → Prop} {Q : VK} (R0 : Rs K F0 H0 st0) (s : Step F0 H0 st0 F H st) (h0 : H0 p = none) (R : Rs K F H st) (hp : H p = some (.lst vs)) (f : F p = none) (e : st p = none) (r : RVs K F vs xs)
    (q : newL m xs st Qd) (kk : Kg (RV K) K F0 H0 st0 Qd Q) : Q (.ref p) H := by
  cases m with
  | true =>
    have ss : Step F0 H0 st0 F H (up st p (.lst xs)) := s.seen h0
    refine kk F (.ref p) H (.r p) (up st p (.lst xs)) ss (R0.by ⟨fun a u ha => ?_, fun a m ha => ?_, R.tb.up hp⟩ ss) (.r p) (q p e)
    · rw [up_ne (fun z => by rw [z, f] at ha; cases ha)]; exact R.sub a u ha
    · by_cases z : a = p
      · subst z; rw [up_same] at ha; cases ha; exact ⟨vs, hp, r⟩
      · rw [up_ne z] at ha; exact R.ok a m ha
  | false =>
    unfold newL at q
    simp only at q
    split at q
    rotate_left
    · exact q.elim
    rename_i ds ed
    have ed2 := datas_eq ed
    subst ed2
    have ex : ∀ a o, F a = some o → upd F p (.lst vs) a = some o := fun a o ha => by rw [upd_ne (fun z => by rw [z, f] at ha; cases ha)]; exact ha
    have ss : Step F0 H0 st0 (upd F p (.lst vs)) H st := ⟨fun a o ha => ex a o (s.ex a o ha), s.pres, fun a u ha => by
      by_cases z : a = p
      · subst z; exact .inr (.inl h0)
      · rw [upd_ne z] at ha; exact s.fnew a u ha⟩
    refine kk (upd F p (.lst vs)) (.ref p) H (.d (.list ds)) st ss (R0.by ⟨fun a u ha => ?_, fun a m ha => MOk.mono ex rfl (R.ok a m ha), R.tb.see hp⟩ ss) (.d (.lst (SqL.of upd_same) (r.mono ex).all)) q
    · by_cases z : a = p
      · subst z; rw [upd_same] at ha; cases ha; exact ⟨hp, e⟩
      · rw [upd_ne z] at ha; exact R.sub a u ha
def qComp (inv : Sto → Prop) (g : TDg) (tt : TDt) (te : TD) (ε : Env) (Kc : List DV → Sto → Prop) : List DV → List DV → Sto → Prop
  | [], acc, st => inv st ∧ Kc acc st
  | x :: r, acc, st => inv st ∧ g x ε st fun ε1 s1 => tt ε1 s1 fun b s2 => if b = true then te ε1 s2 fun y s3 => qComp inv g tt te ε Kc r (acc ++ [y]) s3 else qComp inv g tt te ε Kc r acc s2
theorem qComp_inv {inv : Sto → Prop} {g : TDg} {tt : TDt} {te : TD} {ε : Env} {Kc : List DV → Sto → Prop} {l acc : List DV} {st : Sto} (h : qComp inv g tt te ε Kc l acc st) : inv st := by
  cases l with
  | nil => exact h.1
  | cons x r => exact h.1
def qLc (m : Bool) (ti : TDi) (g : TDg) (tt : TDt) (te : TD) (vs : List Nat) : TD := fun ε st Q => ti ε st fun items inv s1 => items.length ≤ sizeLine ∧ qComp inv g tt te (wipeD ε vs) (fun acc s2 => newL m acc s2 Q) items [] s1
structure DTs (X : Cx) (ifs : List Expr) (t : TDt) : Prop where
  ex : ∃ te, PTs X ifs te ∧ Sg relT X.K te t
def qYes : TDt := fun _ st Q => Q true st
theorem dts_nil : DTs X [] qYes := ⟨⟨_, pts_nil, fun F σ H ε st Qd Q R E h kk => kk.at R rfl h⟩⟩
theorem dts_one {e : Expr} {t : TDt} (h : DT X e t) : DTs X [e] t := let ⟨te, p, a⟩ := h.ex; ⟨⟨te, pts_one p, a⟩⟩
theorem Cok.blk (c : Cok P w K mg base X N sc fs k) {scope : Scope} (hk : scope.kind = .function) (s : Shared) (H : Hp) (C : Addr) (cl : List (Str × Addr)) (fp : List Addr) :
    Cok P w K mg base (X.blk s H scope (compEnvC scope cl C X.env) fp) N (relS scope sc) scope k where
  hP := c.hP
  hw := c.hw
  hK := c.hK
  hmg := c.hmg
  hb := c.hb
  hN := c.hN
  nd := c.nd
  kind := hk
  hs := by
    show relabel scope X.env = relS scope sc
    have e := c.hs
    unfold relabel relS PySem.Env.kindOf
    rw [e]
  calm := c.calm
  fn := fun x h => by
    show (scope.names.lookup x == some NameKind.cell) = true
    rw [h]
    rfl
  room := c.room
  pass := fun _ _ h => h.elim
theorem comp_sim {wi : TI} {g : TG} {tt : TT} {te : TE} {ti : TDi} {gd : TDg} {ttd : TDt} {ted : TD} {m : Bool} {vs ws : List Nat} (hv : ∀ i ∈ ws, i ∈ vs)
    (a0 : ∀ F σ H ε st Qd R', Rs K F H st → RE K F σ ε → ti ε st Qd → (∀ F' J H' items inv st', Step F H st F' H' st' → Rs K F' H' st' → Src K F' J items inv → Qd items inv st' → R' J H') → wi σ H R')
    (a1 : ∀ F σ H ε st v x Qd Q, Rs K F H st → RE K F σ ε → RV K F v x → gd x ε st Qd → (∀ F' σ' H' ε' st', Step F H st F' H' st' → Rs K F' H' st' → RE K F' σ' ε' → (∀ vs : List Nat, (∀ i ∈ ws, i ∈ vs) → wipe σ' vs = wipe σ vs) → Qd ε' st' → Q σ' H') → g v σ H Q)
    (a2 : Sg relT K tt ttd) (a3 : Sg (RV K) K te ted) : Sg (RV K) K (tLc wi g tt te vs) (qLc m ti gd ttd ted vs) := by
  intro F σ H ε st Qd Q R E h kk
  refine a0 F σ H ε st _ _ R E h fun F1 J H1 items inv st1 s1 R1 src q => ?_
  intro D hD
  obtain ⟨hsz, q⟩ := q
  obtain ⟨f0, d0⟩ := R1.free hD
  obtain ⟨R1', s1'⟩ := R1.hide (o := .lst []) hD
  refine ⟨fun i mm H' => i ≤ items.length ∧ mm = items.length - i ∧ ∃ F' st' acc accD, Step F1 H1 st1 F' H' st' ∧ Rs K F' H' st' ∧ H' D = some (.lst acc) ∧ F' D = none ∧ st' D = none ∧ RVs K F' acc accD ∧ acc.length ≤ i ∧ qComp inv gd ttd ted (wipeD ε vs) (fun acc s2 => newL m acc s2 Qd) (items.drop i) accD st',
    ⟨items.length, Nat.zero_le _, by omega, F1, st1, [], [], s1', R1', upd_same, f0, d0, .nil, Nat.le_refl _, by rw [List.drop_zero]; exact q⟩, ?_⟩
  rintro i mm H2 ⟨hi, rfl, F2, st2, acc, accD, s2, R2, hD2, f2, d2, r2, hl, q2⟩
  have iv := qComp_inv q2
  obtain ⟨src1, src2⟩ := src F2 H2 st2 s2.ex R2 iv
  by_cases hlt : i < items.length
  · have ed : items.drop i = items[i] :: items.drop (i + 1) := List.drop_eq_getElem_cons hlt
    rw [ed] at q2
    obtain ⟨go, yl⟩ := src1 i items[i] (List.getElem?_eq_getElem hlt)
    refine .inr ⟨go, fun H' => ∃ F' st' acc accD, Step F1 H1 st1 F' H' st' ∧ Rs K F' H' st' ∧ H' D = some (.lst acc) ∧ F' D = none ∧ st' D = none ∧ RVs K F' acc accD ∧ acc.length ≤ i + 1 ∧ qComp inv gd ttd ted (wipeD ε vs) (fun acc s2 => newL m acc s2 Qd) (items.drop (i + 1)) accD st',
      fun H' q' => ⟨items.length - (i + 1), by omega, hlt, rfl, q'⟩, fun v H3 y => ?_⟩
    obtain ⟨F3, s3, R3, r3⟩ := yl v H3 y
    have E3 : RE K F3 (wipe σ vs) (wipeD ε vs) := (E.mono (s1.trans (s2.trans s3)).ex).wipe vs
    refine a1 F3 _ H3 _ st2 v items[i] _ _ R3 E3 r3 q2.2 fun F4 σ4 H4 ε4 st4 s4 R4 E4 w4 q4 => ?_
    refine ⟨(w4 vs hv).trans (wipe_idem σ vs), ?_⟩
    refine a2 F4 σ4 H4 ε4 st4 _ _ R4 E4 q4 fun F5 b H5 b' st5 s5 R5 rb q5 => ?_
    cases rb
    have s25 := s2.trans (s3.trans (s4.trans s5))
    obtain ⟨hD5, f5, d5⟩ := (s3.trans (s4.trans s5)).hid hD2 f2 d2
    cases b with
    | true =>
      refine a3 F5 σ4 H5 ε4 st5 _ _ R5 (E4.mono s5.ex) q5 fun F6 y H6 y' st6 s6 R6 ry q6 => ?_
      obtain ⟨hD6, f6, d6⟩ := s6.hid hD5 f5 d5
      refine ⟨acc, hD6, by omega, F6, st6, acc ++ [y], accD ++ [y'], (s25.trans s6).hput hD, R6.hput f6 d6 hD6 R1 (s25.trans s6) hD, upd_same, f6, d6, (r2.mono ((s3.trans (s4.trans s5)).trans s6).ex).append (.cons ry .nil), by rw [List.length_append]; simp only [List.length_singleton]; omega, q6⟩
    | false => exact ⟨F5, st5, acc, accD, s25, R5, hD5, f5, d5, r2.mono (s3.trans (s4.trans s5)).ex, by omega, q5⟩
  · have e : i = items.length := by omega
    subst e
    rw [List.drop_length] at q2
    exact .inl ⟨src2, seen_lst R1 s2 hD R2 hD2 f2 d2 r2 q2.2 (kk.step s1)⟩
where
  wipe_idem (σ : L2.St) (vs : List Nat) : wipe (wipe σ vs) vs = wipe σ vs := by
    have h : ∀ us : List Nat, (∀ i ∈ us, i ∈ vs) → wipe (wipe σ us) vs = wipe σ vs := by
      intro us
      induction us with
      | nil => intro _; rfl
      | cons j us ih =>
        intro hu
        show wipe ((wipe σ us).set j none) vs = _
        rw [wipe_set (hu j List.mem_cons_self)]
        exact ih fun i hi => hu i (List.mem_cons_of_mem _ hi)
    exact h vs fun _ z => z
end
end DL
end
section
set_option Elab.async false
set_option linter.all false
set_option maxRecDepth 100000
set_option maxHeartbeats 4000000
namespace DLM
open PySem PySem.Spec
open AutoSeq1 (wpAny_loadPart')
theorem meets_enumerate_newT (l : Addr) (items : Array Value) (n : Nat) (dct : Option Addr) (sl : Array (Option Value)) :
    Meets (Builtin.«enumerate.__new__» ⟨[.type "enumerate", .ref l], []⟩) (fun _ R s => s.heap.get? l = some { cls := .type "tuple", dict := dct, data := .seq items n, slots := sl } ∧
      R (.ok (.ret (.ref (s.heap.push { cls := .type "tuple_iterator", data := .fields #[.ref l, .int 0 0] }).objs.size)))
        { s with heap := (s.heap.push { cls := .type "tuple_iterator", data := .fields #[.ref l, .int 0 0] }).push { cls := .type "enumerate", data := .fields #[.none, .bool false, .ref s.heap.objs.size, rawInt 0, .none, .none] } }) :=
  .of_wp fun prog w A R s h => by
    obtain ⟨hp, g, d, tk, os⟩ := s; obtain ⟨hl, h⟩ := h
    have hsub := sub_enumerate
    have hL : Heap.IsTuple (Shared.heap ⟨hp, g, d, tk, os⟩) l items := ⟨_, hl, rfl, n, rfl⟩
    wp_walk using wpAny_loadPart' hl
    refine wpAny_stack_any fun st => wpAny_pure ?_
    split
    · rename_i c _ _ _ _ _
      cases (c == Value.type "enumerate")
      · wp_walk using wpAny_loadPart' hl, wpAny_pyIter_tuple hL
        exact ⟨_, rfl, h⟩
      · wp_walk using wpAny_loadPart' hl, wpAny_pyIter_tuple hL
        exact ⟨_, rfl, h⟩
    · wp_walk using wpAny_loadPart' hl, wpAny_pyIter_tuple hL
      exact ⟨_, rfl, h⟩
section
variable {prog : Program} {w : World} {A : Around} {E : Value → Shared → Prop} {s : Shared}
theorem call_enumerate_tuple {l : Addr} {items : Array Value} {Q : Value → Shared → Prop} (hL : s.heap.IsTuple l items)
    (h : ∀ h', IsEnum h' (s.heap.objs.size + 1) s.heap.objs.size 0 .none → h'.IsTupleIter s.heap.objs.size l 0 → h'.objs.size = s.heap.objs.size + 2 →
      (∀ b o, s.heap.get? b = some o → h'.get? b = some o) → Q (.ref (s.heap.objs.size + 1)) { s with heap := h' }) :
    wpAny (model prog w) A (call (.type "enumerate") [.ref l]) Q E s := by
  obtain ⟨⟨c, dct, dt, sl⟩, hl, hc, n, hd⟩ := hL
  replace hc : c = .type "tuple" := hc
  replace hd : dt = .seq items n := hd
  subst hc hd
  refine callType_new F.called_enumerate (by decide) (F.typeCall_enumerate_1 _) (F.newCall_enumerate_1 _) (fun obj => F.args_object_init_2 obj _) F.entry_enumerate_new
    (meets_enumerate_newT l items n dct sl) ⟨hl, ?_⟩
  have hz : (s.heap.push { cls := .type "tuple_iterator", data := .fields #[.ref l, .int 0 0] }).objs.size = s.heap.objs.size + 1 := Heap.size_push ..
  show _ ∧ _
  rw [hz]
  have he : IsEnum ((s.heap.push { cls := .type "tuple_iterator", data := .fields #[.ref l, .int 0 0] }).push
      { cls := .type "enumerate", data := .fields #[.none, .bool false, .ref s.heap.objs.size, rawInt 0, .none, .none] }) (s.heap.objs.size + 1) s.heap.objs.size 0 .none := by
    have := Heap.get?_push_size (s.heap.push { cls := .type "tuple_iterator", data := .fields #[.ref l, .int 0 0] })
      (o := { cls := .type "enumerate", data := .fields #[.none, .bool false, .ref s.heap.objs.size, rawInt 0, .none, .none] }) rfl
    rw [hz] at this; exact this
  refine ⟨⟨_, he, rfl⟩, h _ he ⟨_, Heap.get?_push_of_some _ (Heap.get?_push_size _ rfl), rfl, rfl⟩ (by rw [Heap.size_push, hz]) fun b o x => Heap.get?_push_of_some _ (Heap.get?_push_of_some _ x)⟩
end
end DLM
namespace L2
open PySem PySem.Spec PyProof.Rows
def IteT (K : PySem.W.Frag) (a : Addr) : It :=
  ⟨fun i H => ∃ (xs : List V) (x : V), SqT K H a xs ∧ xs[i]? = some x, fun i H v H' => ∃ T x, v = .ref T ∧ H T = none ∧ H' = upd H T (.tup [.int (i : Nat), x]) ∧ ∀ xs, SqT K H a xs → xs[i]? = some x, fun i H => ∃ xs : List V, SqT K H a xs ∧ xs.length ≤ i⟩
theorem turn_enumT {P : Program} {w : World} {K : PySem.W.Frag} {elts : List Expr} {kk : Nat} {tpos : Pos} (a e it : Addr) :
    Turn P w K (.Tuple elts kk tpos) (IteT K a) [e, it] e (fun i h => (∃ old, IsEnum h e it ((i : Nat) : Int) old) ∧ h.IsTupleIter it a i ∧ e ≠ it) where
  mem := by simp
  obj := fun i h st b hb => by
    obtain ⟨⟨old, he⟩, ⟨o, ho, hc, hd⟩, _⟩ := st
    have e' : b = e ∨ b = it := by simpa using hb
    rcases e' with z | z
    · rw [z]; exact ⟨_, he, fun v q => nomatch q⟩
    · rw [z]; exact ⟨o, ho, fun v q => by rw [hd] at q; cases q⟩
  keep := fun i h h' st k => let ⟨⟨old, he⟩, hi, hne⟩ := st; ⟨⟨old, k e (by simp) _ he⟩, hi.at fun o q => k it (by simp) o q, hne⟩
  item := by
    intro X hP hw hK hc i pins s σ H E I hf st hg
    subst hP hw hK
    obtain ⟨⟨old, he⟩, hit, hne⟩ := st
    obtain ⟨xs, x, hq, hx⟩ := hg
    obtain ⟨its, rv, p, hz⟩ := I.tuple hq
    obtain ⟨u, hu, ru⟩ := rv.get hx
    have hel : e < s.heap.objs.size := Heap.lt_size he
    have hil : it < s.heap.objs.size := by obtain ⟨_, q, _⟩ := hit; exact Heap.lt_size q
    have hi : i < its.toArray.size := by
      have := (List.getElem?_eq_some_iff.mp hu).1
      simpa using this
    have hai : a ≠ it := by
      obtain ⟨o1, q1, c1, _⟩ := id p
      obtain ⟨o2, q2, c2, _⟩ := id hit
      intro z
      rw [z, q2] at q1
      cases q1
      rw [c1] at c2
      exact absurd (Value.type.inj c2) (by decide)
    have hae : e ≠ a := by
      obtain ⟨o1, q1, c1, _⟩ := id p
      intro z
      rw [← z, he] at q1
      cases q1
      exact absurd (Value.type.inj c1) (by decide)
    have D := PySem.Draws.tuple (prog := X.prog) (w := X.w) (A := X.A.in1) (I.ok.hd hc) it a hai its.toArray
    refine wpAny_pyNext_enum_itemD D he ⟨hit, p⟩ hi hne (by simp [hne, hae]) fun y h' tk hP ho hst hT hsz hk => ?_
    have ey : y = u := by
      rw [List.getElem?_toArray, hu] at hP
      exact (Option.some.inj hP).symm
    subst ey
    refine ⟨_, rfl, wpAny_letOwnedTupleGo_enum (s := { s with heap := h', toks := tk + 1 }) ho fun h'' he' sb => ?_⟩
    have hT2 : h''.get? s.heap.objs.size = some { cls := .type "tuple", data := .seq #[.int i tk, y] } := (sb.2 _ (Nat.ne_of_gt hel)).trans hT
    have new : ObjOk X.prog X.w (upd H s.heap.objs.size (.tup [.int (i : Nat), x])) h'' s.heap.objs.size (.tup [.int (i : Nat), x]) :=
      ⟨by show 2 ≤ sizeLine; decide, [.int i tk, y], .cons ⟨_, rfl⟩ (.cons ru .nil), ⟨_, hT2, rfl, _, rfl⟩⟩
    have I1 : Inv X pins σ (upd H s.heap.objs.size (.tup [.int (i : Nat), x])) { s with heap := h'', toks := tk + 1 } :=
      I.turnedNew (ch := [e, it]) (fun b ob hb q => (sb.2 b (fun z => hb (by simp [z]))).trans (hk b ob (fun z => hb (by simp [z])) (fun z => hb (by simp [z])) q)) hf (Nat.le_refl _) new
    refine ⟨.ref s.heap.objs.size, _, I1, rfl, ⟨_, x, rfl, I.hok.fresh (Nat.le_refl _), rfl, fun ys hy => by rw [I.tuple_inj hy hq]; exact hx⟩, ⟨⟨y, ?_⟩, hst.1.at fun o q => (sb.2 it (Ne.symm hne)).trans q, hne⟩, fun b hb => ?_⟩
    · have e1 : ((i + 1 : Nat) : Int) = (i : Int) + 1 := by omega
      rw [e1]; exact he'
    · have hb' : b < s.heap.objs.size := by
        have e' : b = e ∨ b = it := by simpa using hb
        rcases e' with z | z
        · rw [z]; exact hel
        · rw [z]; exact hil
      rw [upd_ne (Nat.ne_of_lt hb')]
      exact (hf b hb).1
  done := by
    intro X hP hw hK hc i pins s σ H E I hf st hg
    subst hP hw hK
    obtain ⟨⟨old, he⟩, hit, hne⟩ := st
    obtain ⟨xs, hq, hx⟩ := hg
    obtain ⟨its, rv, p, hz⟩ := I.tuple hq
    obtain ⟨f0, f1, f2, f3, f4, f5⟩ := hf it (by simp)
    have hl := rv.length
    have hT : s.TypeIs (.ref e) "enumerate" := ⟨_, he, rfl⟩
    unfold pyNext
    refine wpAny_bind (wpAny_attempt (wpAny_callSpecial?_slot (name := Str.ofString "__next__") hT F.slot_enumerate_next
      (wpAny_call_entry F.slot_enumerate_next hT F.entry_enumerate_next ?_ (F.args_enumerate_next_1 _))))
    show wpAny _ _ (field (.ref e) 2 >>= _) _ _ _
    refine wpAny_bind (wpAny_field he rfl (x := .ref it) rfl ?_)
    refine wpAny_bind (wpAny_nextOf_tuple_end (I.ok.hd hc) hit p (by simp; omega) fun h' y he' hx' => ?_)
    obtain ⟨o, ho, hc⟩ := hx'
    refine wpAny_bind (wpAny_isInstance (T := "StopIteration") (b := true) ⟨o, ho, hc⟩ isSubtype_stop ?_)
    exact wpAny_pure ⟨rfl, I.turned (t' := s.toks) (fun b o hb q => he' b o hb q) f0 f1 f3 f4 f5⟩
  self := fun A i s Q E st h => let ⟨⟨_, he⟩, _⟩ := st; wpAny_pyIter_enum he h
def iEnumA (K : PySem.W.Frag) (ta : TA) : TI := fun σ H R => ta σ H fun vs H1 => ∃ a xs, vs = [.ref a] ∧ ((SqL K H1 a xs ∧ R (Ite K a) H1) ∨ (SqT K H1 a xs ∧ R (IteT K a) H1))
theorem pi_enumA {X : Cx} {e : Expr} {ta : TA} {p pos tpos : Pos} {elts : List Expr} {kk : Nat} (hg : Gl X "enumerate") (hm : X.mg "enumerate" = none) (ha : PA X [e] ta) (hs : starEach [e] X.env = [(false, eval e X.env)] := by rfl) :
    PI X (.Tuple elts kk tpos) (.Call (.Name "enumerate" p) [e] [] pos) (iEnumA X.K ta) := by
  refine ⟨fun pins s σ H R I h => ?_⟩
  refine Call_ (ld_blt I hg hm boot_enumerate (PyProof.Rows.callWith_type1 (thn (ha.run pos pins s σ H _ I h) fun us s1 ⟨vs, H1, I1, r1, q1⟩ => ?_) hs rfl))
  obtain ⟨a, xs, ex, q⟩ := q1
  subst ex
  cases r1 with
  | cons r rr =>
    cases rr
    cases r
    have fresh2 : ∀ b, b ∈ [s1.heap.objs.size + 1, s1.heap.objs.size] → FpOk X pins H1 b := fun b hb => by
      have e' : b = s1.heap.objs.size + 1 ∨ b = s1.heap.objs.size := by simpa using hb
      have hle : s1.heap.objs.size ≤ b := by
        rcases e' with z | z
        · rw [z]; exact Nat.le_add_right _ _
        · rw [z]; exact Nat.le_refl _
      exact I1.fpOk hle (I1.hok.fresh hle)
    rcases q with ⟨hq, q⟩ | ⟨hq, q⟩
    · obtain ⟨its, rv, p', hz⟩ := I1.list hq
      refine call_enumerate_list p'.isList fun h' he hit hsz hk => wpAny_pyIter_enum he ?_
      have I2 : Inv X pins σ H1 { s1 with heap := h' } := I1.kept (t' := s1.toks) hk
      exact ⟨s1.heap.objs.size + 1, [s1.heap.objs.size + 1, s1.heap.objs.size], _, _, H1, rfl, I2, turn_enum a (s1.heap.objs.size + 1) s1.heap.objs.size, ⟨⟨.none, he⟩, hit, Nat.succ_ne_self _⟩, fresh2, q⟩
    · obtain ⟨its, rv, p', hz⟩ := I1.tuple hq
      refine DLM.call_enumerate_tuple (show s1.heap.IsTuple a its.toArray from p') fun h' he hit hsz hk => wpAny_pyIter_enum he ?_
      have I2 : Inv X pins σ H1 { s1 with heap := h' } := I1.kept (t' := s1.toks) hk
      exact ⟨s1.heap.objs.size + 1, [s1.heap.objs.size + 1, s1.heap.objs.size], _, _, H1, rfl, I2, turn_enumT a (s1.heap.objs.size + 1) s1.heap.objs.size, ⟨⟨.none, he⟩, hit, Nat.succ_ne_self _⟩, fresh2, q⟩
def iSeq (K : PySem.W.Frag) (tl : TE) : TI := fun σ H R => tl σ H fun x H1 => ∃ a xs, x = .ref a ∧ ((SqL K H1 a xs ∧ R (Itl K a) H1) ∨ (SqT K H1 a xs ∧ R (Itt K a) H1))
theorem pi_seq {X : Cx} {tg l : Expr} {tl : TE} (hl : PE X l tl) : PI X tg l (iSeq X.K tl) := by
  refine ⟨fun pins s σ H R I h => ?_⟩
  refine thn (hl.run pins s σ H _ I h) fun v s1 ⟨x, H1, I1, r1, q1⟩ => ?_
  obtain ⟨a, xs, e, q⟩ := q1
  subst e
  cases r1
  have fresh1 : ∀ b, b ∈ [s1.heap.objs.size] → FpOk X pins H1 b := fun b hb => by
    have e : b = s1.heap.objs.size := by simpa using hb
    subst e
    exact I1.fpOk (Nat.le_refl _) (I1.hok.fresh (Nat.le_refl _))
  rcases q with ⟨hq, q⟩ | ⟨hq, q⟩
  · obtain ⟨its, rv, p, hz⟩ := I1.list hq
    refine wpAny_pyIter_list p.isList ?_
    exact ⟨s1.heap.objs.size, [s1.heap.objs.size], _, _, H1, rfl, I1.kept (t' := s1.toks) fun b o e => Heap.get?_push_of_some _ e, turn_list a _, ⟨_, Heap.get?_push_size _ rfl, rfl, rfl⟩, fresh1, q⟩
  · obtain ⟨its, rv, p, hz⟩ := I1.tuple hq
    refine wpAny_pyIter_tuple (show s1.heap.IsTuple a its.toArray from p) ?_
    exact ⟨s1.heap.objs.size, [s1.heap.objs.size], _, _, H1, rfl, I1.kept (t' := s1.toks) fun b o e => Heap.get?_push_of_some _ e, turn_tuple a _, ⟨_, Heap.get?_push_size _ rfl, rfl, rfl⟩, fresh1, q⟩
end L2
end
section
set_option Elab.async false
set_option linter.all false
set_option maxRecDepth 100000
set_option maxHeartbeats 4000000
namespace DL
open PySem L2 PyProof.Rows
variable [tB : Tb] [gR : Gr]
section
variable {P : Program} {w : World} {K : PySem.W.Frag} {mg : Str → Option Value} {base : Heap} {X : Cx} {N : List Str} {sc fs : Scope} {k : Nat}
theorem gl_of {x : Str} (c : Cok P w K mg base X N sc fs k) (h : glB sc x = true) : Gl X x ∧ x ≠ "__name__" ∧ (x == ("__debug__" : Str)) = false := by
  unfold glB at h
  simp only [Bool.and_eq_true, Bool.not_eq_true'] at h
  obtain ⟨⟨h1, h2⟩, h3⟩ := h
  refine ⟨?_, fun e => ?_, h2⟩
  · show X.env.kindOf x = some .globalImplicit
    rw [kindOf_S c]
    show sc.names.lookup x = _
    split at h1
    · assumption
    · cases h1
  · subst e
    exact absurd h3 (by decide)
def lsrc (st : Sto) : DV → Option (List DV × (Sto → Prop))
  | .d (.list xs) => some (xs.map .d, fun _ => True)
  | .r a => match st a with | some (.lst xs) => some (xs, fun s => s a = some (.lst xs)) | _ => none
  | _ => none
theorem lsrc_at {F0 H0 : Hp} {st0 : Sto} {v : V} {x : DV} {xs : List DV} {inv : Sto → Prop} (R0 : Rs K F0 H0 st0) (r : RV K F0 v x) (h : lsrc st0 x = some (xs, inv)) :
    ∃ a, v = .ref a ∧ (∃ vs, SqL K H0 a vs) ∧ inv st0 ∧ ∀ F H st, (∀ a o, F0 a = some o → F a = some o) → Rs K F H st → inv st → ∃ vs, SqL K H a vs ∧ RVs K F vs xs := by
  cases x with
  | d z =>
    cases z with
    | list ds =>
      cases h
      cases r with
      | d r =>
        cases r with
        | lst q s => exact ⟨_, rfl, ⟨_, SqL.mono (Rs.ex F0 H0 st0 R0) q⟩, True.intro, fun F H st e R _ => ⟨_, SqL.mono (fun a o z => Rs.ex F H st R a o (e a o z)) q, (s.mono e).rvs⟩⟩
    | _ => cases h
  | t ys => cases h
  | r a =>
    cases r
    unfold lsrc at h
    simp only at h
    cases e : st0 a with
    | none => rw [e] at h; cases h
    | some m =>
      rw [e] at h
      cases m with
      | lst ys =>
        cases h
        obtain ⟨vs, q, s⟩ := R0.ok a _ e
        refine ⟨a, rfl, ⟨vs, SqL.of q⟩, e, fun F H st _ R iv => ?_⟩
        obtain ⟨vs, q, s⟩ := R.ok a _ iv
        exact ⟨vs, SqL.of q, s⟩
      | dK _ => cases h
      | dT _ => cases h
      | ins _ _ => cases h
      | lk _ _ _ => cases h
      | xd _ => cases h
theorem tsrc_at {F0 H0 : Hp} {st0 : Sto} {v : V} {x : DV} {xs : List DV} (R0 : Rs K F0 H0 st0) (r : RV K F0 v x) (h : titems x = some xs) :
    ∃ a, v = .ref a ∧ (∃ vs, SqT K H0 a vs) ∧ ∀ F H st, (∀ a o, F0 a = some o → F a = some o) → Rs K F H st → ∃ vs, SqT K H a vs ∧ RVs K F vs xs := by
  obtain ⟨a, vs, e, q, s⟩ := titems_rv r h
  exact ⟨a, e, ⟨vs, SqT.of (R0.sub _ _ q).1⟩, fun F H st e R => ⟨vs, SqT.of (R.sub _ _ (e _ _ q)).1, s.mono e⟩⟩
def seqSrc (st : Sto) (x : DV) : Option (List DV × (Sto → Prop)) := match titems x with | some xs => some (xs, fun _ => True) | none => lsrc st x
def qiSeq (te : TD) : TDi := fun ε st Q => te ε st fun x s1 => match seqSrc s1 x with | some (its, inv) => Q its inv s1 | none => False
theorem di_seq {tg e : Expr} {te : TD} (h : DE X e te) : DI X tg e (qiSeq te) := by
  obtain ⟨t1, p, a⟩ := h
  refine ⟨⟨_, pi_seq p, fun F σ H ε st Qd R' R E h kk => ?_⟩⟩
  refine a F σ H ε st _ _ R E h fun F1 v H1 x s1 t1 R1 r q => ?_
  split at q
  rotate_left
  · exact q.elim
  rename_i its inv es
  unfold seqSrc at es
  split at es
  · rename_i xs ex
    cases es
    obtain ⟨a, rfl, ⟨vs, hv⟩, hs⟩ := tsrc_at R1 r ex
    refine ⟨a, vs, rfl, .inr ⟨hv, kk F1 _ H1 its _ s1 t1 R1 (fun F H st e R iv => ?_) q⟩⟩
    obtain ⟨vs, hv, s⟩ := hs F H st e R
    refine ⟨fun i y hy => ?_, vs, hv, Nat.le_of_eq s.length⟩
    obtain ⟨u, hu, ru⟩ := s.get' hy
    refine ⟨⟨vs, u, hv, hu⟩, fun v H' ⟨e1, e2⟩ => ?_⟩
    subst e1
    have := e2 vs hv
    rw [hu] at this
    cases this
    exact ⟨F, Step.refl _ _ _, R, ru⟩
  · obtain ⟨a, rfl, ⟨vs, hv⟩, iv0, hs⟩ := lsrc_at R1 r es
    refine ⟨a, vs, rfl, .inl ⟨hv, kk F1 _ H1 its _ s1 t1 R1 (fun F H st e R iv => ?_) q⟩⟩
    obtain ⟨vs, hv, s⟩ := hs F H st e R iv
    refine ⟨fun i y hy => ?_, vs, hv, Nat.le_of_eq s.length⟩
    obtain ⟨u, hu, ru⟩ := s.get' hy
    refine ⟨⟨vs, u, hv, hu⟩, fun v H' ⟨e1, e2⟩ => ?_⟩
    subst e1
    have := e2 vs hv
    rw [hu] at this
    cases this
    exact ⟨F, Step.refl _ _ _, R, ru⟩
def rngD (lo : Int) (n : Nat) : List DV := (List.range n).map fun (i : Nat) => .d (.int (lo + (i : Int)))
theorem rng_src {F0 : Hp} (lo : Int) (n : Nat) : Src K F0 (Itr lo n) (rngD lo n) (fun _ => True) := fun F H st e R iv => by
  unfold rngD
  refine ⟨fun i x hx => ?_, by simp [Itr]⟩
  rw [List.getElem?_map] at hx
  by_cases hlt : i < n
  · rw [List.getElem?_range hlt] at hx
    cases hx
    refine ⟨hlt, fun v H' ⟨e1, e2⟩ => ?_⟩
    subst e1 e2
    exact ⟨F, Step.refl _ _ _, R, .d (.int _)⟩
  · rw [List.getElem?_eq_none (by rw [List.length_range]; omega)] at hx
    cases hx
def qiRng1 (ta : TDa) : TDi := fun ε st Q => ta ε st fun vs s1 => match vs with
  | [.d (.int j)] => -(2 ^ 62) ≤ j ∧ j < 2 ^ 62 ∧ Q (rngD 0 j.toNat) (fun _ => True) s1
  | _ => False
def qiRng2 (ta : TDa) : TDi := fun ε st Q => ta ε st fun vs s1 => match vs with
  | [.d (.int i), .d (.int j)] => (-(2 ^ 62) ≤ i ∧ i < 2 ^ 62 ∧ -(2 ^ 62) ≤ j ∧ j < 2 ^ 62) ∧ Q (rngD i (j - i).toNat) (fun _ => True) s1
  | _ => False
theorem di_rng1 {tg a : Expr} {ta : TDa} {p pos : Pos} (c : Cok P w K mg base X N sc fs k) (hg : glB sc "range" = true) (hm : mg "range" = none) (h : DA X [a] ta) (hs : starEach [a] X.env = [(false, eval a X.env)] := by rfl) : DI X tg (.Call (.Name "range" p) [a] [] pos) (qiRng1 ta) := by
  obtain ⟨t1, p1, a1⟩ := h
  refine ⟨⟨_, pi_range1 (gl_of c hg).1 (by rw [c.hmg]; exact hm) p1 hs, fun F σ H ε st Qd R' R E h kk => ?_⟩⟩
  refine a1 F σ H ε st _ _ R E h fun F1 vs H1 xs s1 t1 R1 r q => ?_
  split at q
  · cases r with
    | cons r rr =>
      cases rr
      cases rv_int r
      exact ⟨_, rfl, q.1, q.2.1, kk F1 _ H1 _ _ s1 t1 R1 (rng_src 0 _) q.2.2⟩
  · exact q.elim
def zipD (xs ys : List DV) : List DV := List.zipWith (fun x y => mkT [x, y]) xs ys
theorem pair_src {F H : Hp} {st : Sto} {T : Addr} {u1 u2 : V} {x y : DV} (R : Rs K F H st) (hT : H T = none) (r1 : RV K F u1 x) (r2 : RV K F u2 y) :
    ∃ F', Step F H st F' (upd H T (.tup [u1, u2])) st ∧ Rs K F' (upd H T (.tup [u1, u2])) st ∧ RV K F' (.ref T) (mkT [x, y]) := by
  obtain ⟨R', t⟩ := R.frz (o := .tup [u1, u2]) hT
  exact ⟨_, t, R', mkT_rv upd_same (.cons (r1.mono t.ex) (.cons (r2.mono t.ex) .nil))⟩
def qiZip (ta : TDa) : TDi := fun ε st Q => ta ε st fun vs s1 => match vs with
  | [x, y] => match titems x, titems y with
    | some xs, some ys => Q (zipD xs ys) (fun _ => True) s1
    | _, _ => match lsrc s1 x, lsrc s1 y with
      | some (xs, inv1), some (ys, inv2) => Q (zipD xs ys) (fun s => inv1 s ∧ inv2 s) s1
      | _, _ => False
  | _ => False
theorem di_zip {e e2 : Expr} {ta : TDa} {p pos tpos : Pos} {elts : List Expr} {kk' : Nat} (c : Cok P w K mg base X N sc fs k) (hg : glB sc "zip" = true) (hm : mg "zip" = none) (h : DA X [e, e2] ta)
    (hs : starEach [e, e2] X.env = (false, eval e X.env) :: starEach [e2] X.env := by rfl) (hpl : (backTo pos (starEach [e2] X.env)).any (·.1) = false := by rfl) : DI X (.Tuple elts kk' tpos) (.Call (.Name "zip" p) [e, e2] [] pos) (qiZip ta) := by
  obtain ⟨t1, p1, a1⟩ := h
  refine ⟨⟨_, RZ.pi_zipA (gl_of c hg).1 (by rw [c.hmg]; exact hm) p1 hs hpl, fun F σ H ε st Qd R' R E h kk => ?_⟩⟩
  refine a1 F σ H ε st _ _ R E h fun F1 vs H1 xs s1 t1 R1 r q => ?_
  split at q
  · cases r with
    | cons r rr =>
      cases rr with
      | cons r2 rr =>
        cases rr
        split at q
        · rename_i xs ys ex ey
          obtain ⟨a, rfl, ⟨vs, hv⟩, h1⟩ := tsrc_at R1 r ex
          obtain ⟨b, rfl, ⟨ws, hw⟩, h2⟩ := tsrc_at R1 r2 ey
          refine ⟨a, b, vs, ws, rfl, .inr ⟨hv, hw, kk F1 _ H1 _ _ s1 t1 R1 (fun F H st e R iv => ?_) q⟩⟩
          obtain ⟨vs, hv, s⟩ := h1 F H st e R
          obtain ⟨ws, hw, s2⟩ := h2 F H st e R
          refine ⟨fun i z hz => ?_, vs, ws, hv, hw, ?_⟩
          · unfold zipD at hz
            rw [List.getElem?_zipWith] at hz
            cases hx : xs[i]? with
            | none => simp [hx] at hz
            | some x =>
              cases hy : ys[i]? with
              | none => simp [hx, hy] at hz
              | some y =>
                simp [hx, hy] at hz
                subst hz
                obtain ⟨u, hu, ru⟩ := s.get' hx
                obtain ⟨u2, hu2, ru2⟩ := s2.get' hy
                refine ⟨⟨vs, ws, u, u2, hv, hw, hu, hu2⟩, fun v H' ⟨T, x', y', e1, hT, e2, h3, h4⟩ => ?_⟩
                subst e1 e2
                have q1 := h3 vs hv
                have q2 := h4 ws hw
                rw [hu] at q1
                rw [hu2] at q2
                cases q1
                cases q2
                exact pair_src R hT ru ru2
          · have l1 := s.length
            have l2 := s2.length
            unfold zipD
            rw [List.length_zipWith]
            omega
        · split at q
          rotate_left
          · exact q.elim
          rename_i xs inv1 ys inv2 ex ey
          obtain ⟨a, rfl, ⟨vs, hv⟩, i1, h1⟩ := lsrc_at R1 r ex
          obtain ⟨b, rfl, ⟨ws, hw⟩, i2, h2⟩ := lsrc_at R1 r2 ey
          refine ⟨a, b, vs, ws, rfl, .inl ⟨hv, hw, kk F1 _ H1 _ _ s1 t1 R1 (fun F H st e R iv => ?_) q⟩⟩
          obtain ⟨vs, hv, s⟩ := h1 F H st e R iv.1
          obtain ⟨ws, hw, s2⟩ := h2 F H st e R iv.2
          refine ⟨fun i z hz => ?_, vs, ws, hv, hw, ?_⟩
          · unfold zipD at hz
            rw [List.getElem?_zipWith] at hz
            cases hx : xs[i]? with
            | none => simp [hx] at hz
            | some x =>
              cases hy : ys[i]? with
              | none => simp [hx, hy] at hz
              | some y =>
                simp [hx, hy] at hz
                subst hz
                obtain ⟨u, hu, ru⟩ := s.get' hx
                obtain ⟨u2, hu2, ru2⟩ := s2.get' hy
                refine ⟨⟨vs, ws, u, u2, hv, hw, hu, hu2⟩, fun v H' ⟨T, x', y', e1, hT, e2, h3, h4⟩ => ?_⟩
                subst e1 e2
                have q1 := h3 vs hv
                have q2 := h4 ws hw
                rw [hu] at q1
                rw [hu2] at q2
                cases q1
                cases q2
                exact pair_src R hT ru ru2
          · have l1 := s.length
            have l2 := s2.length
            unfold zipD
            rw [List.length_zipWith]
            omega
  · exact q.elim
def enumD (xs : List DV) : List DV := xs.mapIdx fun i x => mkT [.d (.int (i : Int)), x]
def qiEnum (ta : TDa) : TDi := fun ε st Q => ta ε st fun vs s1 => match vs with
  | [x] => (match seqSrc s1 x with | some (xs, inv) => Q (enumD xs) inv s1 | none => False)
  | _ => False
theorem enum_at {xs : List DV} {i : Nat} {z : DV} (h : (enumD xs)[i]? = some z) : ∃ x, xs[i]? = some x ∧ z = mkT [.d (.int (i : Int)), x] := by
  unfold enumD at h
  rw [List.getElem?_mapIdx] at h
  cases e : xs[i]? with
  | none => simp [e] at h
  | some x => simp [e] at h; exact ⟨x, rfl, h.symm⟩
theorem di_enum {e : Expr} {ta : TDa} {p pos tpos : Pos} {elts : List Expr} {kk' : Nat} (c : Cok P w K mg base X N sc fs k) (hg : glB sc "enumerate" = true) (hm : mg "enumerate" = none) (h : DA X [e] ta) (hs : starEach [e] X.env = [(false, eval e X.env)] := by rfl) : DI X (.Tuple elts kk' tpos) (.Call (.Name "enumerate" p) [e] [] pos) (qiEnum ta) := by
  obtain ⟨t1, p1, a1⟩ := h
  refine ⟨⟨_, pi_enumA (gl_of c hg).1 (by rw [c.hmg]; exact hm) p1 hs, fun F σ H ε st Qd R' R E h kk => ?_⟩⟩
  refine a1 F σ H ε st _ _ R E h fun F1 vs H1 xs s1 t1 R1 r q => ?_
  split at q
  · cases r with
    | cons r rr =>
      cases rr
      split at q
      rotate_left
      · exact q.elim
      rename_i xs inv es
      unfold seqSrc at es
      split at es
      · rename_i ys ex
        cases es
        obtain ⟨a, rfl, ⟨vs, hv⟩, h1⟩ := tsrc_at R1 r ex
        refine ⟨a, vs, rfl, .inr ⟨hv, kk F1 _ H1 _ _ s1 t1 R1 (fun F H st e R iv => ?_) q⟩⟩
        obtain ⟨vs, hv, s⟩ := h1 F H st e R
        refine ⟨fun i z hz => ?_, vs, hv, by unfold enumD; rw [List.length_mapIdx]; exact Nat.le_of_eq s.length⟩
        obtain ⟨x, hx, rfl⟩ := enum_at hz
        obtain ⟨u, hu, ru⟩ := s.get' hx
        refine ⟨⟨vs, u, hv, hu⟩, fun v H' ⟨T, x', e1, hT, e2, h3⟩ => ?_⟩
        subst e1 e2
        have q1 := h3 vs hv
        rw [hu] at q1
        cases q1
        exact pair_src R hT (.d (.int _)) ru
      · obtain ⟨a, rfl, ⟨vs, hv⟩, i1, h1⟩ := lsrc_at R1 r es
        refine ⟨a, vs, rfl, .inl ⟨hv, kk F1 _ H1 _ _ s1 t1 R1 (fun F H st e R iv => ?_) q⟩⟩
        obtain ⟨vs, hv, s⟩ := h1 F H st e R iv
        refine ⟨fun i z hz => ?_, vs, hv, by unfold enumD; rw [List.length_mapIdx]; exact Nat.le_of_eq s.length⟩
        obtain ⟨x, hx, rfl⟩ := enum_at hz
        obtain ⟨u, hu, ru⟩ := s.get' hx
        refine ⟨⟨vs, u, hv, hu⟩, fun v H' ⟨T, x', e1, hT, e2, h3⟩ => ?_⟩
        subst e1 e2
        have q1 := h3 vs hv
        rw [hu] at q1
        cases q1
        exact pair_src R hT (.d (.int _)) ru
  · exact q.elim
/-- the reading that a data reading gives, whatever the context is -/
def lift {α β : Type} (rel : Hp → α → β → Prop) (K : PySem.W.Frag) (t : Env → Sto → (β → Sto → Prop) → Prop) : L2.St → Hp → (α → Hp → Prop) → Prop := fun σ H Q => ∃ F ε st Qd, Rs K F H st ∧ RE K F σ ε ∧ t ε st Qd ∧ Kg rel K F H st Qd Q
theorem lift_sg {α β : Type} {rel : Hp → α → β → Prop} {t : Env → Sto → (β → Sto → Prop) → Prop} : Sg rel K (lift rel K t) t := fun F σ H ε st Qd Q R E h kk => ⟨F, ε, st, Qd, R, E, h, kk⟩
theorem DE.lift {e : Expr} {t : TD} (h : DE X e t) : PE X e (DL.lift (RV X.K) X.K t) := by
  obtain ⟨te, p, a⟩ := h
  exact ⟨fun pins s σ H Q I ⟨F, ε, st, Qd, R, E, h, kk⟩ => p.run pins s σ H Q I (a F σ H ε st Qd Q R E h kk)⟩
theorem DTs.lift {e : List Expr} {t : TDt} (h : DTs X e t) : PTs X e (DL.lift relT X.K t) := by
  obtain ⟨te, p, a⟩ := h
  exact ⟨fun pins s σ H Q I ⟨F, ε, st, Qd, R, E, h, kk⟩ => p.run pins s σ H Q I (a F σ H ε st Qd Q R E h kk)⟩
def liftG (K : PySem.W.Frag) (ws : List Nat) (t : TDg) : TG := fun v σ H Q => ∃ F ε st x Qd, Rs K F H st ∧ RE K F σ ε ∧ RV K F v x ∧ t x ε st Qd ∧
  ∀ F' σ' H' ε' st', Step F H st F' H' st' → Rs K F' H' st' → RE K F' σ' ε' → (∀ vs : List Nat, (∀ i ∈ ws, i ∈ vs) → wipe σ' vs = wipe σ vs) → Qd ε' st' → Q σ' H'
theorem DG.lift {e : Expr} {ws : List Nat} {t : TDg} (h : DG X e ws t) : PG X e (liftG X.K ws t) := by
  obtain ⟨te, p, a⟩ := h
  exact ⟨fun pins s σ H v u Q I r ⟨F, ε, st, x, Qd, R, E, rv, h, kk⟩ => p.run pins s σ H v u Q I r (a F σ H ε st v x Qd Q R E rv h kk)⟩
def liftI (K : PySem.W.Frag) (t : TDi) : TI := fun σ H R' => ∃ F ε st Qd, Rs K F H st ∧ RE K F σ ε ∧ t ε st Qd ∧ ∀ F' J H' items inv st', Step F H st F' H' st' → Rs K F' H' st' → Src K F' J items inv → Qd items inv st' → R' J H'
theorem DI.lift {tg e : Expr} {t : TDi} (h : DI X tg e t) : PI X tg e (liftI X.K t) := by
  obtain ⟨te, p, a⟩ := h
  exact ⟨fun pins s σ H R' I ⟨F, ε, st, Qd, R, E, h, kk⟩ => p.run pins s σ H R' I (a F σ H ε st Qd R' R E h kk)⟩
theorem de_lc {elt tg iter : Expr} {ifs : List Expr} {scope : Scope} {pos : Pos} {ti : TDi} {g : TDg} {tt : TDt} {te : TD} {ws : List Nat} (m : Bool) (own : List (Str × Nat)) (c : Cok P w K mg base X N sc fs k) (hb : blkC N sc scope own = true) (hw : ∀ i ∈ ws, i ∈ own.map (·.2)) (hi : DI X tg iter ti)
    (hg : ∀ X', Cok P w K mg base X' N (relS scope sc) scope k → DG X' tg ws g) (ht : ∀ X', Cok P w K mg base X' N (relS scope sc) scope k → DTs X' ifs tt) (he : ∀ X', Cok P w K mg base X' N (relS scope sc) scope k → DE X' elt te)
    (hs : ∀ x, foldedSetIterable iter X.env x = pure x := by intro _; rfl) : DE X (.ListComp elt [⟨tg, iter, ifs, 0⟩] scope pos) (qLc m ti g tt te (own.map (·.2))) := by
  have ok : BlkOk X.N X.env.scope scope own := by
    rw [c.hN, c.hs]
    exact blkOk_by hb
  have cb := fun s H C cl fp => c.blk (scope := scope) ok.kind s H C cl fp
  obtain ⟨wi, p0, a0⟩ := hi
  refine ⟨⟨_, pe_lc (g := liftG X.K ws g) (tt := DL.lift relT X.K tt) (te := DL.lift (RV X.K) X.K te) c.calm (by rw [c.hN]; exact c.nd) p0 ok (fun s H C cl fp => (hg _ (cb s H C cl fp)).lift) (fun s H C cl fp => (ht _ (cb s H C cl fp)).lift) (fun s H C cl fp => (he _ (cb s H C cl fp)).lift) hs,
    comp_sim hw a0 (fun F σ H ε st v x Qd Q R E r q kk => ⟨F, ε, st, x, Qd, R, E, r, q, kk⟩) lift_sg lift_sg⟩⟩
/-- name = [..] on one line -/
def setLcB (N : List Str) (sc : Scope) (i : Nat) (y : Str) : Bool := decide (N[i]? = some y) && decide (sc.names.lookup y = some .local)
theorem ds_setLc {elt tg iter : Expr} {ifs : List Expr} {scope : Scope} {i : Nat} {y : Str} {py pos spos : Pos} {ti : TDi} {g : TDg} {tt : TDt} {te : TD} {ws : List Nat} (m : Bool) (own : List (Str × Nat)) (c : Cok P w K mg base X N sc fs k) (hy : setLcB N sc i y = true)
    (hsw : swapsWith (.ListComp elt [⟨tg, iter, ifs, 0⟩] scope pos) (some (.Name y py)) spos.line (envS sc) = pure true) (hb : blkC N sc scope own = true) (hw : ∀ i ∈ ws, i ∈ own.map (·.2)) (hi : DI X tg iter ti)
    (hg : ∀ X', Cok P w K mg base X' N (relS scope sc) scope k → DG X' tg ws g) (ht : ∀ X', Cok P w K mg base X' N (relS scope sc) scope k → DTs X' ifs tt) (he : ∀ X', Cok P w K mg base X' N (relS scope sc) scope k → DE X' elt te)
    (hs : ∀ x, foldedSetIterable iter X.env x = pure x := by intro _; rfl) : DS X (.Assign [.Name y py] (.ListComp elt [⟨tg, iter, ifs, 0⟩] scope pos) spos) (qAsg (qLc m ti g tt te (own.map (·.2))) (qgN i)) := by
  unfold setLcB at hy
  simp only [Bool.and_eq_true, decide_eq_true_eq] at hy
  have ok : BlkOk X.N X.env.scope scope own := by
    rw [c.hN, c.hs]
    exact blkOk_by hb
  have cb := fun s H C cl fp => c.blk (scope := scope) ok.kind s H C cl fp
  obtain ⟨wi, p0, a0⟩ := hi
  refine ⟨⟨_, ps_setLc (i := i) (g := liftG X.K ws g) (tt := DL.lift relT X.K tt) (te := DL.lift (RV X.K) X.K te) c.calm (by rw [c.hN]; exact c.nd) (by rw [c.hN]; exact hy.1) (by rw [c.hs]; exact hy.2) ((swaps_S c _ _ _).trans hsw) p0 ok (fun s H C cl fp => (hg _ (cb s H C cl fp)).lift) (fun s H C cl fp => (ht _ (cb s H C cl fp)).lift) (fun s H C cl fp => (he _ (cb s H C cl fp)).lift) hs,
    fun F σ H ε st Dd D R E h kk => ?_⟩⟩
  refine comp_sim (K := X.K) hw a0 (fun F σ H ε st v x Qd Q R E r q kk => ⟨F, ε, st, x, Qd, R, E, r, q, kk⟩) lift_sg lift_sg F σ H ε st _ _ R E h fun F1 v H1 x st1 s1 R1 r q => ?_
  exact kk.nx F1 _ H1 _ st1 s1 R1 ((E.mono s1.ex).set r i) q
abbrev SpD := List DV → Sto → (DV → Sto → Prop) → Prop
def hsp (K : PySem.W.Frag) (sp : SpD) : Sp := fun vs H Q _ => ∃ F st xs Qd, Rs0 K F H st ∧ RVs K F vs xs ∧ sp xs st Qd ∧ @Kg _ Gr.tr _ _ (RV K) K F H st Qd Q
def qCall (sp : SpD) (ta : TDa) : TD := fun ε st Q => ta ε st fun xs s1 => sp xs s1 Q
theorem de_call {x : Str} {e : Expr} {es : List Expr} {ta : TDa} {p pos : Pos} {f : Addr} {fd : FuncData} {ps : List Str} {sp : SpD} {j : Nat} (c : Cok P w K mg base X N sc fs k) (hg : glB sc x = true) (hm : mg x = some (.ref f)) (hk : PySem.W.keepIn K (.ref f) = true) (G : FnOk P w K mg base CX0 j f fd ps (hsp K sp)) (hj : j ≤ k) (b : Binds K fd ps [])
    (ha : DA X (e :: es) ta) (he : starEach (e :: es) X.env = (false, eval e X.env) :: starEach es X.env := by rfl) (hpl : (backTo pos (starEach es X.env)).any (·.1) = false := by rfl) : DE X (.Call (.Name x p) (e :: es) [] pos) (qCall sp ta) := by
  obtain ⟨t1, p1, a1⟩ := ha
  obtain ⟨hX1, hX2, hX3, hX4, hX5, _⟩ := id c
  have g := gl_of c hg
  have G' : FnOk X.prog X.w X.K X.mg X.base CX0 k f fd ps (hsp X.K sp) := by
    rw [hX1, hX2, hX3, hX4, hX5]
    exact G.mono hj
  refine ⟨⟨_, pe_call G' c.room g.1 (by rw [hX4]; exact hm) (by rw [hX3]; exact hk) (by rw [hX3]; exact b) .nil pass0 p1 g.2.2 he hpl, fun F σ H ε st Qd Q R E h kk => ?_⟩⟩
  refine a1 F σ H ε st _ _ R E h fun F1 vs H1 xs s1 t1 R1 r q => ?_
  show hsp X.K sp (vs ++ []) H1 Q E0
  rw [List.append_nil]
  exact ⟨F1, s1, xs, Qd, R1.toRs0, r, q, (kk.step t1).tr R1⟩
/-- what is given out, all else of the store forgotten -/
def Fg (Q : DV → Sto → Prop) : DV → Sto → Prop := fun x st => ∃ st', Le st' st ∧ Q x st'
def startD (n : Nat) (xs : List DV) : Env := xs.map some ++ List.replicate (n - xs.length) none
theorem start_re {F : Hp} {vs : List V} {xs : List DV} (r : RVs K F vs xs) (N : List Str) : RE K F (L2.start N vs) (startD N.length xs) := by
  have hl := r.length
  refine ⟨by unfold L2.start startD; simp only [List.length_append, List.length_map, List.length_replicate]; omega, fun i x h => ?_⟩
  unfold startD at h
  unfold L2.start
  by_cases hi : i < xs.length
  · rw [List.getElem?_append_left (by rw [List.length_map]; exact hi), List.getElem?_map] at h
    rw [List.getElem?_append_left (by rw [List.length_map]; omega), List.getElem?_map]
    cases e : xs[i]? with
    | none => rw [e] at h; cases h
    | some y =>
      rw [e] at h
      cases h
      obtain ⟨v, hv, rv⟩ := r.get' e
      exact ⟨v, by rw [hv]; rfl, rv⟩
  · rw [List.getElem?_append_right (by rw [List.length_map]; omega), List.getElem?_replicate] at h
    split at h <;> cases h
omit gR in
/-- THE RULE of a def: its body's derivation, and its reading -/
theorem fn_ok {x qual : Str} {s : Stmt} {f : Addr} {fd : FuncData} {ps : List Str} {sp : SpD} {t : TDs} (Fu : Fun K x qual s f fd) (S : FnScope N ps (defScope s)) (len : ∀ xs st Q, sp xs st Q → xs.length = ps.length)
    (hbody : ∀ [Gr] X, Cok P w K mg base X N (defScope s) (defScope s) k → DSs X (defBody s) t)
    (hsem : ∀ xs st Q, sp xs st Q → t { nx := fun _ st' => Fg Q (.d .none) st', rt := Fg Q } (startD N.length xs) st) : FnOk P w K mg base CX0 (k + 1) f fd ps (hsp K sp) := by
  refine Fu.ok S (fun vs H Q E ⟨F, st, xs, Qd, R, r, h, kk⟩ => r.length.trans (len xs st Qd h)) (fun cdv A outer s' H vs Q E hr ⟨F, st, xs, Qd, R, r, h, kk⟩ => ?_)
  have c : Cok P w K mg base (cxOf CX0 P w K mg base N qual (defScope s) f cdv A outer s' H E).nox N (defScope s) (defScope s) k :=
    ⟨rfl, rfl, rfl, rfl, rfl, rfl, S.nd, S.kind, rfl, rfl, fun _ _ => rfl, hr, fun _ _ h => h.elim⟩
  obtain ⟨ts, p, a⟩ := hbody _ c
  have fin : ∀ F' v H' x' st', Step F H st F' H' st' → Rs K F' H' st' → RV K F' v x' → Fg Qd x' st' → Q v H' := fun F' v H' x' st' t R' r' ⟨st2, le, q⟩ =>
    kk F' v H' x' st2 (t.less le) (R'.toRs0.le le).tr r' q
  refine ⟨ts, p, a F _ H (startD N.length xs) st _ _ R.tr (start_re r N) (hsem xs st Qd h) ⟨fun F' σ' H' ε' st' t R' E' q => fin F' .non H' (.d .none) st' t R' (.d .non) q, fin, fun _ _ _ _ _ _ _ _ z => z.elim, fun _ _ _ _ _ _ _ _ z => z.elim⟩⟩
end
end DL
end
section
set_option Elab.async false
set_option linter.all false
set_option maxRecDepth 100000
set_option maxHeartbeats 4000000
namespace DL
open PySem L2 PyProof.Rows
variable [tB : Tb] [gR : Gr]
section
variable {P : Program} {w : World} {K : PySem.W.Frag} {mg : Str → Option Value} {base : Heap} {X : Cx} {N : List Str} {sc fs : Scope} {k : Nat}
theorem Cok.hu (c : Cok P w K mg base X N sc fs k) : X.A.units + 1 < cLine := hu_of c.room
theorem Cok.hu64 (c : Cok P w K mg base X N sc fs k) : X.A.units + 64 < cLine := c.room.units
def qCB (r : RLD) (ta : TDa) : TD := fun ε st Q => ta ε st fun xs s1 => r xs s1 Q
theorem de_cb {x : Str} {e : Expr} {es : List Expr} {ta : TDa} {p pos : Pos} {id : String} {r : RLD} (c : Cok P w K mg base X N sc fs k) (hg : glB sc x = true) (hm : mg x = none) (hv : bootBuiltins x = some (.builtin id)) (hc : ∃ r', CallR X (.builtin id) r' ∧ SL X.K r' r)
    (ha : DA X (e :: es) ta) (he : starEach (e :: es) X.env = (false, eval e X.env) :: starEach es X.env := by rfl) (hpl : (backTo pos (starEach es X.env)).any (·.1) = false := by rfl) : DE X (.Call (.Name x p) (e :: es) [] pos) (qCB r ta) := by
  obtain ⟨t1, p1, a1⟩ := ha
  obtain ⟨r', h1, h2⟩ := hc
  have g := gl_of c hg
  refine ⟨⟨_, pe_callB h1 g.1 (by rw [c.hmg]; exact hm) hv p1 g.2.1 g.2.2 he hpl, fun F σ H ε st Qd Q R E h kk => a1.go R E h kk fun F1 H1 s1 v x R1 E1 rv q kk => h2 F1 H1 s1 v x _ _ R1 rv q kk⟩⟩
theorem de_ct {x : Str} {e : Expr} {es : List Expr} {ta : TDa} {p pos : Pos} {T : String} {r : RLD} (c : Cok P w K mg base X N sc fs k) (hg : glB sc x = true) (hm : mg x = none) (hv : bootBuiltins x = some (.type T)) (hc : ∃ r', CallR X (.type T) r' ∧ SL X.K r' r)
    (ha : DA X (e :: es) ta) (he : starEach (e :: es) X.env = (false, eval e X.env) :: starEach es X.env := by rfl) (hpl : (backTo pos (starEach es X.env)).any (·.1) = false := by rfl) : DE X (.Call (.Name x p) (e :: es) [] pos) (qCB r ta) := by
  obtain ⟨t1, p1, a1⟩ := ha
  obtain ⟨r', h1, h2⟩ := hc
  have g := gl_of c hg
  refine ⟨⟨_, pe_callTy h1 g.1 (by rw [c.hmg]; exact hm) hv p1 g.2.1 g.2.2 he hpl, fun F σ H ε st Qd Q R E h kk => a1.go R E h kk fun F1 H1 s1 v x R1 E1 rv q kk => h2 F1 H1 s1 v x _ _ R1 rv q kk⟩⟩
theorem CallR.or2 {f : Value} {r r' : List V → Hp → VK → Prop} (h : CallR X f r) (h' : CallR X f r') : CallR X f (fun x H Q => r x H Q ∨ r' x H Q) := by
  intro pins s σ H xs us Q I rx q
  rcases q with q | q
  · exact h pins s σ H xs us Q I rx q
  · exact h' pins s σ H xs us Q I rx q
theorem rvs1 {F : Hp} {vs : List V} {x : DV} (r : RVs K F vs [x]) : ∃ v, vs = [v] ∧ RV K F v x := by
  cases r with
  | cons a b => cases b; exact ⟨_, rfl, a⟩
theorem rvs2 {F : Hp} {vs : List V} {x y : DV} (r : RVs K F vs [x, y]) : ∃ v w, vs = [v, w] ∧ RV K F v x ∧ RV K F w y := by
  cases r with
  | cons a b => cases b with | cons b c => cases c; exact ⟨_, _, rfl, a, b⟩
/-- len -/
def qLen : RLD := fun xs st Q => match xs with
  | [.d (.str z)] => z.length ≤ sizeLine ∧ Q (.d (.int (z.length : Int))) st
  | [x] => (match sitems st x with
    | some l => Q (.d (.int (l.length : Int))) st
    | none => match x with
      | .r a => (match st a with
        | some (.dK kvs) => Q (.d (.int (kvs.length : Int))) st
        | _ => False)
      | _ => False)
  | _ => False
theorem c_len : ∃ r', CallR X (.builtin "len") r' ∧ SL X.K r' qLen := by
  refine ⟨_, CallR.or2 (CallR.or2 call_len_str call_len_seq) call_lenD, ?_⟩
  intro F H st vs xs Qd Q R rv h kk
  unfold qLen at h
  split at h
  · obtain ⟨v, rfl, r⟩ := rvs1 rv
    cases rv_str r
    exact .inl (.inl ⟨_, rfl, h.1, kk.at R (.d (.int _)) h.2⟩)
  · obtain ⟨v, rfl, r⟩ := rvs1 rv
    split at h
    · rename_i l el
      obtain ⟨p, ys, rfl, hq, s⟩ := sitems_rv R r el
      refine .inl (.inr ⟨p, ys, rfl, hq, ?_⟩)
      rw [s.length]
      exact kk.at R (.d (.int _)) h
    · split at h
      · rename_i a hx
        cases r
        split at h
        · rename_i kvs e
          obtain ⟨ws, q, s⟩ := R.ok _ _ e
          have hl : ws.length = kvs.length := Paired.length s
          refine .inr ⟨_, ws, rfl, q, ?_⟩
          rw [hl]
          exact kk.at R (.d (.int _)) h
        · exact h.elim
      · exact h.elim
  · exact h.elim
/-- tuple(x), list(x) -/
def qTupleC : RLD := fun xs st Q => match xs with
  | [x] => (match sitems st x with | some l => Q (mkT l) st | none => False)
  | _ => False
theorem c_tuple : ∃ r', CallR X (.type "tuple") r' ∧ SL X.K r' qTupleC := by
  refine ⟨_, call_tuple_of, ?_⟩
  intro F H st vs xs Qd Q R rv h kk
  unfold qTupleC at h
  split at h
  · obtain ⟨v, rfl, r⟩ := rvs1 rv
    split at h
    · rename_i x l el
      unfold sitems at el
      split at el
      · rename_i l' et
        cases el
        obtain ⟨p, ys, rfl, hq, s⟩ := titems_rv r et
        exact ⟨p, ys, rfl, .inr ⟨SqT.of (R.sub _ _ hq).1, kk.at R (mkT_rv hq s) h⟩⟩
      · obtain ⟨p, ys, rfl, hq, s⟩ := litems_rv R r el
        exact ⟨p, ys, rfl, .inl ⟨hq, fun l hl => new_tup R s hl h kk⟩⟩
    · exact h.elim
  · exact h.elim
def qListC (m : Bool) : RLD := fun xs st Q => match xs with
  | [x] => (match sitems st x with | some l => newL m l st Q | none => False)
  | _ => False
theorem c_list (m : Bool) : ∃ r', CallR X (.type "list") r' ∧ SL X.K r' (qListC m) := by
  refine ⟨_, call_list_of, ?_⟩
  intro F H st vs xs Qd Q R rv h kk
  unfold qListC at h
  split at h
  · obtain ⟨v, rfl, r⟩ := rvs1 rv
    split at h
    · rename_i x l el
      obtain ⟨p, ys, rfl, hq, s⟩ := sitems_rv R r el
      exact ⟨p, ys, rfl, hq, fun l hl => new_lst R s hl h kk⟩
    · exact h.elim
  · exact h.elim
/-- max, min of two -/
def qMax2 : RLD := fun xs st Q => match xs with
  | [.d (.int i), .d (.int j)] => Q (.d (.int (if j > i then j else i))) st
  | _ => False
def qMin2 : RLD := fun xs st Q => match xs with
  | [.d (.int i), .d (.int j)] => Q (.d (.int (if j < i then j else i))) st
  | _ => False
theorem c_max2 (hc : X.calm = true) : ∃ r', CallR X (.builtin "max") r' ∧ SL X.K r' qMax2 := by
  refine ⟨_, call_max2 hc, ?_⟩
  intro F H st vs xs Qd Q R rv h kk
  unfold qMax2 at h
  split at h
  · obtain ⟨v, w', rfl, r, r2⟩ := rvs2 rv
    cases rv_int r; cases rv_int r2
    exact ⟨_, _, rfl, kk.at R (.d (.int _)) h⟩
  · exact h.elim
theorem c_min2 (hc : X.calm = true) : ∃ r', CallR X (.builtin "min") r' ∧ SL X.K r' qMin2 := by
  refine ⟨_, call_min2 hc, ?_⟩
  intro F H st vs xs Qd Q R rv h kk
  unfold qMin2 at h
  split at h
  · obtain ⟨v, w', rfl, r, r2⟩ := rvs2 rv
    cases rv_int r; cases rv_int r2
    exact ⟨_, _, rfl, kk.at R (.d (.int _)) h⟩
  · exact h.elim
/-- int(n) -/
def qIntC : RLD := fun xs st Q => match xs with
  | [.d (.int i)] => Q (.d (.int i)) st
  | [.d (.bool b)] => Q (.d (.int (if b then 1 else 0))) st
  | _ => False
theorem c_int : ∃ r', CallR X (.type "int") r' ∧ SL X.K r' qIntC := by
  refine ⟨_, call_int1, ?_⟩
  intro F H st vs xs Qd Q R rv h kk
  unfold qIntC at h
  split at h
  · obtain ⟨v, rfl, r⟩ := rvs1 rv
    cases rv_int r
    exact .inl ⟨_, rfl, kk.at R (.d (.int _)) h⟩
  · obtain ⟨v, rfl, r⟩ := rvs1 rv
    cases rv_bool r
    exact .inr ⟨_, rfl, kk.at R (.d (.int _)) h⟩
  · exact h.elim
/-- sum of ints -/
def rSumT (K : PySem.W.Frag) : List V → Hp → VK → Prop := fun vs H Q => ∃ (a : Addr) (ns : List Int), vs = [V.ref a] ∧ SqT K H a (ns.map V.int) ∧ Q (.int ns.sum) H
theorem cr_sumT (hc : X.calm = true) : CallR X (.builtin "sum") (rSumT X.K) := by
  intro pins s σ H vs us Q I r h
  obtain ⟨a, ns, rfl, hs, q⟩ := h
  obtain ⟨its, rv, hl, _⟩ := I.tuple hs
  rw [Vals.ref1 r]
  have hi := rv.ints
  obtain ⟨xs, e⟩ := hi.allInts.items
  have hn : numsOf (intItems xs).toList = ns := by rw [← e]; exact hi.numsOf
  rw [nums_intItems] at hn
  rw [e] at hl
  refine PySem.W.ktm_sumG (I.ok.hd hc) (show s.heap.IsTuple a (intItems xs) from hl) fun h' tk t' hk => ?_
  rw [preSum_eq, List.take_of_length_le (by simp), hn]
  exact ⟨.int _, H, I.kept hk, ⟨_, rfl⟩, q⟩
def qSum : RLD := fun xs st Q => match xs with
  | [x] => (match sitems st x with | some l => (match dints l with | some ns => Q (.d (.int ns.sum)) st | none => False) | none => False)
  | _ => False
theorem c_sum (hc : X.calm = true) : ∃ r', CallR X (.builtin "sum") r' ∧ SL X.K r' qSum := by
  refine ⟨_, CallR.or2 (cr_sum hc) (cr_sumT hc), ?_⟩
  intro F H st vs xs Qd Q R rv h kk
  unfold qSum at h
  split at h
  · obtain ⟨v, rfl, r⟩ := rvs1 rv
    split at h
    · rename_i x l el
      split at h
      rotate_left
      · exact h.elim
      rename_i ns en
      have q := h
      obtain ⟨p, ys, rfl, hq, s⟩ := sitems_rv R r el
      obtain ⟨rfl, _⟩ := dints_rvs s en
      rcases hq with hq | hq
      · exact .inl ⟨p, ns, rfl, hq, kk.at R (.d (.int _)) q⟩
      · exact .inr ⟨p, ns, rfl, hq, kk.at R (.d (.int _)) q⟩
    · exact h.elim
  · exact h.elim
/-- any, all of truth values -/
def dbools : List DV → Option (List Bool)
  | [] => some []
  | .d (.bool i) :: r => (dbools r).map (i :: ·)
  | _ :: _ => none
theorem dbools_rvs : ∀ {F : Hp} {vs : List V} {xs : List DV} {ns : List Bool}, RVs K F vs xs → dbools xs = some ns → vs = ns.map V.bl
  | _, _, [], ns, r, h => by cases h; cases r; rfl
  | F, v :: vs, .d (.bool i) :: xs, ns, .cons r q, h => by
    cases e : dbools xs with
    | none => simp [dbools, e] at h
    | some l =>
      simp [dbools, e] at h
      subst h
      cases rv_bool r
      rw [dbools_rvs q e]
      rfl
theorem dbools_map : ∀ l : List Bool, dbools (l.map fun i => .d (.bool i)) = some l
  | [] => rfl
  | i :: r => by simp [dbools, dbools_map r]
def qAny : RLD := fun xs st Q => match xs with
  | [x] => (match litems st x with | some l => (match dbools l with | some ns => Q (.d (.bool (ns.any id))) st | none => False) | none => False)
  | _ => False
def qAll : RLD := fun xs st Q => match xs with
  | [x] => (match litems st x with | some l => (match dbools l with | some ns => Q (.d (.bool (ns.all id))) st | none => False) | none => False)
  | _ => False
theorem c_any (hc : X.calm = true) : ∃ r', CallR X (.builtin "any") r' ∧ SL X.K r' qAny := by
  refine ⟨_, cr_any hc, ?_⟩
  intro F H st vs xs Qd Q R rv h kk
  unfold qAny at h
  split at h
  · obtain ⟨v, rfl, r⟩ := rvs1 rv
    split at h
    · rename_i x l el
      split at h
      rotate_left
      · exact h.elim
      rename_i ns en
      have q := h
      obtain ⟨p, ys, rfl, hq, s⟩ := litems_rv R r el
      cases dbools_rvs s en
      exact ⟨p, ns, rfl, hq, kk.at R (.d (.bl _)) q⟩
    · exact h.elim
  · exact h.elim
def tyName (st : Sto) : DV → Option String
  | .d .none => some "NoneType"
  | .d (.bool _) => some "bool"
  | .d (.int _) => some "int"
  | .d (.str _) => some "str"
  | .d (.list _) => some "list"
  | .d (.tuple _) => some "tuple"
  | .d (.dict _) => none
  | .t _ => some "tuple"
  | .r a => match st a with | some (.lst _) => some "list" | some (.dK _) => some "dict" | some (.dT _) => some "dict" | _ => none
def qIsi (T : String) (ta : TD) : TD := fun ε st Q => ta ε st fun x s1 => match tyName s1 x with
  | some T' => (match kitB T' T with | some b => Q (.d (.bool b)) s1 | none => False)
  | none => False
def keyD : DV → Option Key
  | .d (.int i) => some (.inl i)
  | .d (.str x) => some (.inr x)
  | _ => none
def keyT : List DV → Option (List Key)
  | [] => some []
  | x :: r => match keyD x, keyT r with | some k, some l => some (k :: l) | _, _ => none
def lookD {κ : Type} [DecidableEq κ] (kvs : List (κ × DV)) (k : κ) : Option DV := (kvs.find? fun kv => decide (kv.1 = k)).map (·.2)
def putD {κ : Type} [DecidableEq κ] (kvs : List (κ × DV)) (k : κ) (v : DV) : List (κ × DV) :=
  if (kvs.any fun kv => decide (kv.1 = k)) = true then kvs.map fun kv => if kv.1 = k then (kv.1, v) else kv else kvs ++ [(k, v)]
abbrev PR (K : PySem.W.Frag) (F : Hp) {κ : Type} : List (κ × V) → List (κ × DV) → Prop := Paired fun p q => p.1 = q.1 ∧ RV K F p.2 q.2
theorem key_rv {F : Hp} {v : V} {x : DV} {q : Key} (r : RV K F v x) (h : keyD x = some q) : v = kV q := by
  cases x with
  | d z =>
    cases z with
    | int i => cases h; exact rv_int r
    | str s => cases h; exact rv_str r
    | _ => cases h
  | r a => cases h
  | t a => cases h
theorem keyT_rv : ∀ {F : Hp} {vs : List V} {xs : List DV} {q : List Key}, RVs K F vs xs → keyT xs = some q → vs = q.map kV
  | _, _, [], q, r, h => by cases h; cases r; rfl
  | F, v :: vs, x :: xs, q, .cons r s, h => by
    unfold keyT at h
    cases e1 : keyD x with
    | none => rw [e1] at h; cases h
    | some a =>
      cases e2 : keyT xs with
      | none => rw [e1, e2] at h; cases h
      | some l =>
        rw [e1, e2] at h
        cases h
        rw [key_rv r e1, keyT_rv s e2]
        rfl
theorem look_rv {κ : Type} [DecidableEq κ] {F : Hp} {ws : List (κ × V)} {kvs : List (κ × DV)} (r : PR K F ws kvs) (q : κ) : (∃ v x, valV ws q = some v ∧ lookD kvs q = some x ∧ RV K F v x) ∨ (valV ws q = none ∧ lookD kvs q = none) := by
  induction r with
  | nil => exact .inr ⟨rfl, rfl⟩
  | @cons a b l1 l2 h t ih =>
    obtain ⟨e, r⟩ := h
    by_cases hq : a.1 = q
    · refine .inl ⟨a.2, b.2, valV_pos hq, ?_, r⟩
      unfold lookD
      rw [List.find?_cons, decide_eq_true (e ▸ hq)]
      rfl
    · have h1 : valV (a :: l1) q = valV l1 q := valV_neg hq
      have h2 : lookD (b :: l2) q = lookD l2 q := by
        unfold lookD
        rw [List.find?_cons, decide_eq_false (e ▸ hq)]
      rw [h1, h2]
      exact ih
theorem put_rv {κ : Type} [DecidableEq κ] {F : Hp} {ws : List (κ × V)} {kvs : List (κ × DV)} (r : PR K F ws kvs) (q : κ) {v : V} {x : DV} (rx : RV K F v x) : PR K F (putK ws q v) (putD kvs q x) := by
  have ha : (ws.any fun kv => decide (kv.1 = q)) = kvs.any fun kv => decide (kv.1 = q) := by
    clear rx
    induction r with
    | nil => rfl
    | @cons a b l1 l2 h t ih => rw [List.any_cons, List.any_cons, ih, h.1]
  unfold putK putD
  rw [ha]
  by_cases h : (kvs.any fun kv => decide (kv.1 = q)) = true
  · rw [if_pos h, if_pos h]
    clear ha h
    induction r with
    | nil => exact .nil
    | @cons a b l1 l2 h t ih =>
      rw [List.map_cons, List.map_cons]
      refine .cons ?_ ih
      by_cases e : a.1 = q
      · rw [if_pos e, if_pos (h.1 ▸ e)]
        exact ⟨h.1, rx⟩
      · rw [if_neg e, if_neg (h.1 ▸ e)]
        exact h
  · rw [if_neg h, if_neg h]
    exact Paired.snoc r ⟨rfl, rx⟩
/-- what a dict of the store holds at a key -/
def dlook (m : Option MO) (y : DV) : Option (Option DV) := match m with
  | some (.dK kvs) => (keyD y).map fun q => lookD kvs q
  | some (.dT kvs) => match titems y with | some ys => (keyT ys).map fun q => lookD kvs q | none => none
  | some (.lk _ _ kvs) => match titems y with | some ys => (keyT ys).map fun q => lookD kvs q | none => none
  | _ => none
theorem dlook_at {F H : Hp} {st : Sto} {a : Addr} {u : V} {y : DV} {o : Option DV} (R : Rs K F H st) (r : RV K F u y) (h : dlook (st a) y = some o) : (∃ v x, o = some x ∧ DGet H a u (some v) ∧ RV K F v x) ∨ (o = none ∧ DGet H a u none) := by
  unfold dlook at h
  split at h
  · rename_i kvs e
    obtain ⟨ws, hw, s⟩ := R.ok a _ e
    cases ek : keyD y with
    | none => rw [ek] at h; cases h
    | some q =>
      rw [ek] at h
      cases h
      rw [key_rv r ek]
      rcases look_rv s q with ⟨v, x, e1, e2, rx⟩ | ⟨e1, e2⟩
      · refine .inl ⟨v, x, e2, ?_, rx⟩
        rw [← e1]
        exact DGet.k hw
      · refine .inr ⟨e2, ?_⟩
        rw [← e1]
        exact DGet.k hw
  · rename_i kvs e
    obtain ⟨ws, hw, s⟩ := R.ok a _ e
    split at h
    · rename_i ys ey
      obtain ⟨b, vs, rfl, hb, sb⟩ := titems_rv r ey
      cases ek : keyT ys with
      | none => rw [ek] at h; cases h
      | some q =>
        rw [ek] at h
        cases h
        have hv := keyT_rv sb ek
        subst hv
        have hb' := (R.sub _ _ hb).1
        rcases look_rv s q with ⟨v, x, e1, e2, rx⟩ | ⟨e1, e2⟩
        · refine .inl ⟨v, x, e2, ?_, rx⟩
          rw [← e1]
          exact DGet.t hw hb'
        · refine .inr ⟨e2, ?_⟩
          rw [← e1]
          exact DGet.t hw hb'
    · cases h
  · rename_i ob ws kvs e
    obtain ⟨hw, s⟩ := R.ok a _ e
    split at h
    · rename_i ys ey
      obtain ⟨b, vs, rfl, hb, sb⟩ := titems_rv r ey
      cases ek : keyT ys with
      | none => rw [ek] at h; cases h
      | some q =>
        rw [ek] at h
        cases h
        have hv := keyT_rv sb ek
        subst hv
        have hb' := (R.sub _ _ hb).1
        rcases look_rv s q with ⟨v, x, e1, e2, rx⟩ | ⟨e1, e2⟩
        · refine .inl ⟨v, x, e2, ?_, rx⟩
          rw [← e1]
          exact .inr ⟨ws, q, b, .inr ⟨ob, hw⟩, rfl, hb', rfl⟩
        · refine .inr ⟨e2, ?_⟩
          rw [← e1]
          exact .inr ⟨ws, q, b, .inr ⟨ob, hw⟩, rfl, hb', rfl⟩
    · cases h
  · cases h
def dput (m : Option MO) (y x : DV) : Option MO := match m with
  | some (.dK kvs) => match keyD y with | some q => if kvs.length < sizeLine then some (.dK (putD kvs q x)) else none | none => none
  | some (.dT kvs) => match titems y with | some ys => (match keyT ys with | some q => if kvs.length < sizeLine then some (.dT (putD kvs q x)) else none | none => none) | none => none
  | _ => none
theorem dput_at {F H : Hp} {st : Sto} {a : Addr} {u v : V} {y x : DV} {m : MO} (R : Rs K F H st) (r : RV K F u y) (rx : RV K F v x) (h : dput (st a) y x = some m) : ∃ H', DPut H a u v H' ∧ Step F H st F H' (up st a m) ∧ Rs K F H' (up st a m) := by
  unfold dput at h
  split at h
  · rename_i kvs e
    obtain ⟨ws, hw, s⟩ := R.ok a _ e
    split at h
    · rename_i q ek
      split at h
      · rename_i hl
        cases h
        rw [key_rv r ek]
        have hl2 : ws.length = kvs.length := Paired.length s
        obtain ⟨R', t⟩ := R.put (o := .dK (putK ws q v)) (m := .dK (putD kvs q x)) e ⟨_, upd_same, put_rv s q rx⟩
        exact ⟨_, DPut.k hw (by omega), t, R'⟩
      · cases h
    · cases h
  · rename_i kvs e
    obtain ⟨ws, hw, s⟩ := R.ok a _ e
    split at h
    · rename_i ys ey
      obtain ⟨b, vs, rfl, hb, sb⟩ := titems_rv r ey
      split at h
      · rename_i q ek
        split at h
        · rename_i hl
          cases h
          have hv := keyT_rv sb ek
          subst hv
          have hl2 : ws.length = kvs.length := Paired.length s
          obtain ⟨R', t⟩ := R.put (o := .dT (putK ws q v)) (m := .dT (putD kvs q x)) e ⟨_, upd_same, put_rv s q rx⟩
          exact ⟨_, DPut.t hw (R.sub _ _ hb).1 (by omega), t, R'⟩
        · cases h
      · cases h
    · cases h
  · cases h
def qDGet : R2D := fun x y st Q => match x with
  | .r a => (match dlook (st a) y with | some (some z) => Q z st | _ => False)
  | _ => False
theorem de_dget {o i : Expr} {pos : Pos} {ta tb : TD} (c : Cok P w K mg base X N sc fs k) (ho : DE X o ta) (hi : DE X i tb) (hs : NoSl i) : DE X (.Subscript o i pos) (qOp qDGet ta tb) := by
  obtain ⟨te, pa, sa⟩ := ho
  obtain ⟨tf, pb, sb⟩ := hi
  refine ⟨⟨_, pe_dget c.hu pa pb hs, Sg.bin (r' := fun x y H Q => ∃ a v, x = .ref a ∧ DGet H a y (some v) ∧ Q v H) sa sb (fun _ _ _ _ e h => RV.mono e h) ?_⟩⟩
  intro F H st v w x y Qd Q R rv rw' h kk
  unfold qDGet at h
  split at h
  · cases rv
    split at h
    · rename_i z e
      rcases dlook_at R rw' e with ⟨v, x, e1, g, rx⟩ | ⟨e1, _⟩
      · cases e1
        exact ⟨_, v, rfl, g, kk.at R rx h⟩
      · cases e1
    · exact h.elim
  · exact h.elim
def qDIn (neg : Bool) : R2D := fun y x st Q => match x with
  | .r a => (match dlook (st a) y with | some o => Q (.d (.bool (if neg then !o.isSome else o.isSome))) st | none => False)
  | _ => False
/-- d[k] = v -/
def qDPut (td ty tv : TD) : TDs := fun D ε st => tv ε st fun v s1 => td ε s1 fun x s2 => ty ε s2 fun y s3 => match x with
  | .r a => (match dput (s3 a) y v with | some m => D.nx ε (up s3 a m) | none => False)
  | _ => False
theorem ds_dput {o i value : Expr} {pos pos' : Pos} {td ty tv : TD} (c : Cok P w K mg base X N sc fs k) (ho : DE X o td) (hi : DE X i ty) (hv : DE X value tv) (hs : swapsWith value (some (.Subscript o i pos')) pos.line X.env = pure false) : DS X (.Assign [.Subscript o i pos'] value pos) (qDPut td ty tv) := by
  obtain ⟨t1, p1, a1⟩ := ho
  obtain ⟨t2, p2, a2⟩ := hi
  obtain ⟨t3, p3, a3⟩ := hv
  refine ⟨⟨_, ps_dput c.hu p1 p2 p3 hs, fun F σ H ε st Dd D R E h kk => ?_⟩⟩
  refine a3 F σ H ε st _ _ R E h fun F1 v H1 x s1 st1 R1 r1 q => ?_
  refine a1 F1 σ H1 ε s1 _ _ R1 (E.mono st1.ex) q fun F2 u H2 y s2 st2 R2 r2 q => ?_
  refine a2 F2 σ H2 ε s2 _ _ R2 (E.mono (st1.trans st2).ex) q fun F3 z H3 y' s3 st3 R3 r3 q => ?_
  split at q
  · cases r2
    split at q
    rotate_left
    · exact q.elim
    rename_i m em
    obtain ⟨H4, g, t, R4⟩ := dput_at R3 r3 (r1.mono (st2.trans st3).ex) em
    exact ⟨_, H4, rfl, g, kk.nx F3 σ H4 ε _ (((st1.trans st2).trans st3).trans t) R4 (E.mono ((st1.trans st2).trans st3).ex) q⟩
  · exact q.elim
def qDNew (T : Bool) : TD := fun _ st Q => ∀ p, st p = none → Q (.r p) (up st p (if T then .dT [] else .dK []))
theorem de_dnew {pos : Pos} (T : Bool) : DE X (.Dict [] [] pos) (qDNew T) := by
  cases T with
  | true => exact ⟨⟨_, pe_dnewT, fun F σ H ε st Qd Q R E h kk p hp => by
      obtain ⟨R', t⟩ := R.new (o := .dT []) (m := .dT []) hp ⟨[], upd_same, .nil⟩
      exact kk _ _ _ _ _ t R' (.r p) (h p (R.free hp).2)⟩⟩
  | false => exact ⟨⟨_, pe_dnewK, fun F σ H ε st Qd Q R E h kk p hp => by
      obtain ⟨R', t⟩ := R.new (o := .dK []) (m := .dK []) hp ⟨[], upd_same, .nil⟩
      exact kk _ _ _ _ _ t R' (.r p) (h p (R.free hp).2)⟩⟩
end
end DL
end
section
set_option Elab.async false
set_option linter.all false
set_option maxRecDepth 100000
set_option maxHeartbeats 4000000
namespace DLM
open PySem PySem.Spec
open AutoSeq1 (wpAny_loadPart' idx_int sub_tuple_tuple sub_list_list sub_tuple_list sub_list_tuple)
theorem list_extend_gen (l : Addr) (items : Array Value) (n : Nat) (b : Addr) (items2 : Array Value) (n2 : Nat) (sl : Array (Option Value)) (hc0 : ¬(!items.isEmpty && Builtin.List.listTooLong (items.size + items2.size)) = true) (hc1 : items.size ≤ sizeLine) (hs2 : items.size + items2.size ≤ sizeLine + 1) :
    Meets (Builtin.«list.extend» ⟨[.ref l, .ref b], []⟩) (fun _ R s => s.heap.get? l = some { cls := .type "list", dict := none, data := .seq items n, slots := #[] } ∧ s.heap.get? b = some { cls := .type "list", dict := none, data := .seq items2 n2, slots := sl } ∧ R (.ok (.ret Value.none)) { s with heap := s.heap.update l (Obj.mapSeq fun x => x ++ items2), toks := s.toks }) :=
  .of_wp fun prog w A R s h => by
    obtain ⟨hp, g, d, tk, os⟩ := s; obtain ⟨hl, hb, h⟩ := h; have f1 := idx_int; have f2 := sub_tuple_tuple; have f3 := sub_list_list; have f4 := sub_tuple_list; have f5 := sub_list_tuple;
    have hz' : (items ++ items2).size ≤ sizeLine + 1 := by rw [Array.size_append]; exact hs2
    wp_walk using (wpAny_updateSeq hl rfl (hz := hc1) (_hz' := hz')), wpAny_loadPart' hl, wpAny_loadPart' hb; exact ⟨_, rfl, h⟩
theorem list_extend_genT (l : Addr) (items : Array Value) (n : Nat) (b : Addr) (items2 : Array Value) (n2 : Nat) (dd : Option Addr) (sl : Array (Option Value)) (hc0 : ¬(!items.isEmpty && Builtin.List.listTooLong (items.size + items2.size)) = true) (hc1 : items.size ≤ sizeLine) (hs2 : items.size + items2.size ≤ sizeLine + 1) :
    Meets (Builtin.«list.extend» ⟨[.ref l, .ref b], []⟩) (fun _ R s => s.heap.get? l = some { cls := .type "list", dict := none, data := .seq items n, slots := #[] } ∧ s.heap.get? b = some { cls := .type "tuple", dict := dd, data := .seq items2 n2, slots := sl } ∧ R (.ok (.ret Value.none)) { s with heap := s.heap.update l (Obj.mapSeq fun x => x ++ items2), toks := s.toks }) :=
  .of_wp fun prog w A R s h => by
    obtain ⟨hp, g, d, tk, os⟩ := s; obtain ⟨hl, hb, h⟩ := h; have f1 := idx_int; have f2 := sub_tuple_tuple; have f3 := sub_list_list; have f4 := sub_tuple_list; have f5 := sub_list_tuple;
    have hz' : (items ++ items2).size ≤ sizeLine + 1 := by rw [Array.size_append]; exact hs2
    wp_walk using (wpAny_updateSeq hl rfl (hz := hc1) (_hz' := hz')), wpAny_loadPart' hl, wpAny_loadPart' hb; exact ⟨_, rfl, h⟩
end DLM
namespace DL
open PySem L2 PyProof.Rows
variable [tB : Tb] [gR : Gr]
section
variable {P : Program} {w : World} {K : PySem.W.Frag} {mg : Str → Option Value} {base : Heap} {X : Cx} {N : List Str} {sc fs : Scope} {k : Nat}
def qPairs : List (Str × TD) → Env → Sto → (List (Key × DV) → Sto → Prop) → Prop
  | [], _, st, Q => Q [] st
  | (x, t) :: r, ε, st, Q => t ε st fun v s1 => qPairs r ε s1 fun ps s2 => Q ((.inr x, v) :: ps) s2
structure DPs (X : Cx) (pos : Pos) (keys : List (Option Expr)) (values : List Expr) (l : List (Str × TD)) : Prop where
  ex : ∃ trs, PPs X pos keys values trs ∧ ∀ F σ H ε st Qd (Q : List (V × V) → Hp → Prop), Rs X.K F H st → RE X.K F σ ε → qPairs l ε st Qd →
    (∀ F' H' (ps : List (Key × V)) qs st', Step F H st F' H' st' → Rs X.K F' H' st' → PR X.K F' ps qs → Qd qs st' → Q (ps.map fun kv => (kV kv.1, kv.2)) H') → tPairs trs σ H Q
theorem dps_nil {pos : Pos} : DPs X pos [] [] [] := ⟨⟨[], pps_nil, fun F σ H ε st Qd Q R E h kk => kk F H [] [] st (Step.refl _ _ _) R .nil h⟩⟩
theorem dps_cons {pos p2 : Pos} {x : Str} {j : Nat} {v : Expr} {ks : List (Option Expr)} {vs : List Expr} {t : TD} {l : List (Str × TD)} (hv : DE X v t) (hr : DPs X pos ks vs l) : DPs X pos (some (.Constant (.str x) j p2) :: ks) (v :: vs) ((x, t) :: l) := by
  obtain ⟨t1, p1, a1⟩ := hv
  obtain ⟨trs, p3, a3⟩ := hr
  refine ⟨⟨_, pps_cons pe_str p1 p3, fun F σ H ε st Qd Q R E h kk => ?_⟩⟩
  refine a1 F σ H ε st _ _ R E h fun F1 v H1 y s1 st1 R1 r q => ?_
  exact a3 F1 σ H1 ε s1 _ _ R1 (E.mono st1.ex) q fun F2 H2 ps qs s2 st2 R2 rr q2 => kk F2 H2 ((.inr x, v) :: ps) ((.inr x, y) :: qs) s2 (st1.trans st2) R2 (.cons ⟨rfl, r.mono st2.ex⟩ rr) q2
def mergeD (kvs more : List (Key × DV)) : List (Key × DV) := more.foldl (fun acc kv => putD acc kv.1 kv.2) kvs
theorem merge_rv {F : Hp} : ∀ {more : List (Key × V)} {moreD : List (Key × DV)} {kvs : List (Key × V)} {kvsD : List (Key × DV)}, PR K F more moreD → PR K F kvs kvsD → PR K F (mergeK kvs more) (mergeD kvsD moreD)
  | _, _, _, _, .nil, h => h
  | a :: _, b :: _, _, _, .cons r t, h => by
    have e := r.1
    have := merge_rv t (put_rv h a.1 r.2)
    unfold mergeK mergeD at this ⊢
    rw [List.foldl_cons, List.foldl_cons, ← e]
    exact this
def qDisp (l : List (Str × TD)) : TD := fun ε st Q => qPairs l ε st fun qs s1 => qs.length ≤ 15 ∧ ∀ p, s1 p = none → Q (.r p) (up s1 p (.dK (mergeD [] qs)))
theorem de_disp {pos : Pos} {keys : List (Option Expr)} {values : List Expr} {l : List (Str × TD)} (h : DPs X pos keys values l) (hall : keys.all (·.isSome) = true) (hl : keys.length = values.length) (h0 : keys ≠ []) (h15 : keys.length ≤ 15) : DE X (.Dict keys values pos) (qDisp l) := by
  obtain ⟨trs, p, a⟩ := h
  refine ⟨⟨_, pe_disp p hall hl h0 h15, fun F σ H ε st Qd Q R E h kk p hp => ?_⟩⟩
  obtain ⟨f0, s0⟩ := R.free hp
  obtain ⟨R', t'⟩ := R.hide (o := .dK []) hp
  refine a F σ _ ε st _ _ R' E h fun F1 H1 ps qs s1 t1 R1 rr ⟨h15', q⟩ => ?_
  obtain ⟨hp1, f1, d1⟩ := t1.hid upd_same f0 s0
  have hlen : ps.length = qs.length := Paired.length rr
  refine ⟨hp1, ps, rfl, by omega, ?_⟩
  have R2 := R1.hput (o := .dK (mergeK [] ps)) f1 d1 hp1 R (t'.trans t1) hp
  have t2 : Step F H st F1 (upd H1 p (.dK (mergeK [] ps))) s1 := (t'.trans t1).hput hp
  have ss : Step F H st F1 (upd H1 p (.dK (mergeK [] ps))) (up s1 p (.dK (mergeD [] qs))) := t2.seen hp
  refine kk F1 (.ref p) _ (.r p) (up s1 p (.dK (mergeD [] qs))) ss (R.by ⟨fun a u ha => ?_, fun a m ha => ?_, R2.tb.up upd_same⟩ ss) (.r p) (q p d1)
  · rw [up_ne (fun z => by rw [z, f1] at ha; cases ha)]; exact R2.sub a u ha
  · by_cases z : a = p
    · subst z; rw [up_same] at ha; cases ha; exact ⟨_, upd_same, merge_rv rr .nil⟩
    · rw [up_ne z] at ha; exact R2.ok a m ha
theorem mt_extendA : MtM X "list.extend" (fun x vs H Q => ∃ l b xs zs, x = .ref l ∧ vs = [.ref b] ∧ H l = some (.lst xs) ∧ (SqL X.K H b zs ∨ SqT X.K H b zs) ∧ xs.length + zs.length ≤ sizeLine ∧ Q .non (upd H l (.lst (xs ++ zs)))) := by
  intro pins s σ H x vs v us Q I rx rv h
  obtain ⟨l, b, xs, zs, rfl, rfl, hH, hB, hz, q⟩ := h
  cases rx
  obtain ⟨u, rfl, ru⟩ := rv.one
  cases ru
  obtain ⟨z, its, n, r, hl, e⟩ := I.lstM hH
  rcases hB with hB | hB
  · obtain ⟨its2, r2, ⟨⟨cls2, dd2, data2, sl2⟩, n2, ho2, hc2, hd02, hd2⟩, hs2⟩ := I.list hB
    simp only at hc2 hd02 hd2
    subst hc2 hd02 hd2
    have hl2 := r2.length
    have hsz : its.toArray.size + its2.toArray.size ≤ sizeLine := by rw [List.size_toArray, List.size_toArray]; omega
    have hlong : ¬ (!its.toArray.isEmpty && Builtin.List.listTooLong (its.toArray.size + its2.toArray.size)) = true := by
      rw [notLongL hsz, Bool.and_false]
      exact Bool.false_ne_true
    refine call_meets F.slot_list_extend ⟨_, e, rfl⟩ F.entry_list_extend (F.args_list_extend_2 _ _)
      (DLM.list_extend_gen l its.toArray n b its2.toArray n2 sl2 hlong (by rw [List.size_toArray]; omega) (by omega)) ⟨e, ho2, ?_⟩
    refine ⟨.non, _, I.lset (its' := its ++ its2) hH e (by simp) (r.append r2) ?_, rfl, q⟩
    rw [List.length_append]
    omega
  · obtain ⟨its2, r2, ⟨⟨cls2, dd2, data2, sl2⟩, ho2, hc2, n2, hd2⟩, hs2⟩ := I.tuple hB
    simp only at hc2 hd2
    subst hc2 hd2
    have hl2 := r2.length
    have hsz : its.toArray.size + its2.toArray.size ≤ sizeLine := by rw [List.size_toArray, List.size_toArray]; omega
    have hlong : ¬ (!its.toArray.isEmpty && Builtin.List.listTooLong (its.toArray.size + its2.toArray.size)) = true := by
      rw [notLongL hsz, Bool.and_false]
      exact Bool.false_ne_true
    refine call_meets F.slot_list_extend ⟨_, e, rfl⟩ F.entry_list_extend (F.args_list_extend_2 _ _)
      (DLM.list_extend_genT l its.toArray n b its2.toArray n2 dd2 sl2 hlong (by rw [List.size_toArray]; omega) (by omega)) ⟨e, ho2, ?_⟩
    refine ⟨.non, _, I.lset (its' := its ++ its2) hH e (by simp) (r.append r2) ?_, rfl, q⟩
    rw [List.length_append]
    omega
/-- xs.append(e), xs.extend(e) as a statement's expression -/
def qAppend (to te : TD) : TD := fun ε st Q => to ε st fun x s1 => match x with
  | .r a => (∃ xs, s1 a = some (.lst xs)) ∧ te ε s1 fun y s2 => ∃ xs, s2 a = some (.lst xs) ∧ xs.length < sizeLine ∧ Q (.d .none) (up s2 a (.lst (xs ++ [y])))
  | _ => False
theorem de_append {o e : Expr} {to te : TD} {apos cpos : Pos} (ho : DE X o to) (he : DE X e te) (hbase : attributeBase o "append" X.env (eval o X.env) = eval o X.env := by rfl)
    (hfew : ((backTo cpos (starEach [e] X.env)).all (fun x => !x.1) && (backToKw cpos (keywordEach [] X.env)).all (fun x => x.1.isSome)
      && decide ([e].length + ([] : List Keyword).length + (if ([] : List Keyword).isEmpty then 0 else 1) < 30)) = true := by rfl)
    (hline : (apos.endLine == cpos.line) = true := by rfl) (hs : starEach [e] X.env = (false, eval e X.env) :: starEach [] X.env := by rfl) : DE X (.Call (.Attribute o "append" apos) [e] [] cpos) (qAppend to te) := by
  obtain ⟨t1, p1, a1⟩ := ho
  obtain ⟨t2, p2, a2⟩ := he
  refine ⟨⟨_, pe_bm PySem.F.plainAttrs_list PySem.F.slot_list_append PySem.F.type_list_append mt_append p1 (pa_cons p2 pa_nil hs) hbase hfew hline hs rfl, fun F σ H ε st Qd Q R E h kk => ?_⟩⟩
  refine a1 F σ H ε st _ _ R E h fun F1 v H1 x s1 st1 R1 r q => ?_
  split at q
  · cases r
    obtain ⟨⟨xs0, e0⟩, q⟩ := q
    obtain ⟨vs0, hv0, _⟩ := R1.ok _ _ e0
    refine ⟨Or.inl ⟨rfl, _, SqL.of hv0⟩, a2 F1 σ H1 ε s1 _ _ R1 (E.mono st1.ex) q fun F2 u H2 y s2 st2 R2 r2 ⟨xs, ex, hl, q⟩ => ?_⟩
    obtain ⟨vs, hv, s⟩ := R2.ok _ _ ex
    have hlen := s.length
    obtain ⟨R3, t3⟩ := R2.put (o := .lst (vs ++ [u])) (m := .lst (xs ++ [y])) ex ⟨_, upd_same, s.append (.cons r2 .nil)⟩
    exact ⟨_, vs, u, rfl, rfl, hv, by omega, kk F2 _ _ (.d .none) _ ((st1.trans st2).trans t3) R3 (.d .non) q⟩
  · exact q.elim
def qExtend (to te : TD) : TD := fun ε st Q => to ε st fun x s1 => match x with
  | .r a => (∃ xs, s1 a = some (.lst xs)) ∧ te ε s1 fun y s2 => ∃ xs ys, s2 a = some (.lst xs) ∧ sitems s2 y = some ys ∧ xs.length + ys.length ≤ sizeLine ∧ Q (.d .none) (up s2 a (.lst (xs ++ ys)))
  | _ => False
theorem de_extend {o e : Expr} {to te : TD} {apos cpos : Pos} (ho : DE X o to) (he : DE X e te) (hbase : attributeBase o "extend" X.env (eval o X.env) = eval o X.env := by rfl)
    (hfew : ((backTo cpos (starEach [e] X.env)).all (fun x => !x.1) && (backToKw cpos (keywordEach [] X.env)).all (fun x => x.1.isSome)
      && decide ([e].length + ([] : List Keyword).length + (if ([] : List Keyword).isEmpty then 0 else 1) < 30)) = true := by rfl)
    (hline : (apos.endLine == cpos.line) = true := by rfl) (hs : starEach [e] X.env = (false, eval e X.env) :: starEach [] X.env := by rfl) : DE X (.Call (.Attribute o "extend" apos) [e] [] cpos) (qExtend to te) := by
  obtain ⟨t1, p1, a1⟩ := ho
  obtain ⟨t2, p2, a2⟩ := he
  refine ⟨⟨_, pe_bm PySem.F.plainAttrs_list PySem.F.slot_list_extend PySem.F.type_list_extend mt_extendA p1 (pa_cons p2 pa_nil hs) hbase hfew hline hs rfl, fun F σ H ε st Qd Q R E h kk => ?_⟩⟩
  refine a1 F σ H ε st _ _ R E h fun F1 v H1 x s1 st1 R1 r q => ?_
  split at q
  · cases r
    obtain ⟨⟨xs0, e0⟩, q⟩ := q
    obtain ⟨vs0, hv0, _⟩ := R1.ok _ _ e0
    refine ⟨Or.inl ⟨rfl, _, SqL.of hv0⟩, a2 F1 σ H1 ε s1 _ _ R1 (E.mono st1.ex) q fun F2 u H2 y s2 st2 R2 r2 ⟨xs, ys, ex, ey, hl, q⟩ => ?_⟩
    obtain ⟨vs, hv, s⟩ := R2.ok _ _ ex
    obtain ⟨b, ws, rfl, hq, s2'⟩ := sitems_rv R2 r2 ey
    have hlen := s.length
    have hlen2 := s2'.length
    obtain ⟨R3, t3⟩ := R2.put (o := .lst (vs ++ ws)) (m := .lst (xs ++ ys)) ex ⟨_, upd_same, s.append s2'⟩
    exact ⟨_, b, vs, ws, rfl, rfl, hv, hq, by omega, kk F2 _ _ (.d .none) _ ((st1.trans st2).trans t3) R3 (.d .non) q⟩
  · exact q.elim
end
end DL
end
section
set_option Elab.async false
set_option linter.all false
set_option maxRecDepth 100000
set_option maxHeartbeats 4000000
namespace DL
open PySem L2 PyProof.Rows
variable [tB : Tb] [gR : Gr]
theorem bb_len : bootBuiltins "len" = some (.builtin "len") := by decide +kernel
theorem bb_sum : bootBuiltins "sum" = some (.builtin "sum") := by decide +kernel
theorem bb_max : bootBuiltins "max" = some (.builtin "max") := by decide +kernel
theorem bb_min : bootBuiltins "min" = some (.builtin "min") := by decide +kernel
theorem bb_any : bootBuiltins "any" = some (.builtin "any") := by decide +kernel
theorem bb_sorted : bootBuiltins "sorted" = some (.builtin "sorted") := by decide +kernel
theorem bt_tuple : bootBuiltins "tuple" = some (.type "tuple") := by decide +kernel
theorem bt_list : bootBuiltins "list" = some (.type "list") := by decide +kernel
theorem bt_int : bootBuiltins "int" = some (.type "int") := by decide +kernel
theorem bt_set : bootBuiltins "set" = some (.type "set") := by decide +kernel
section
variable {P : Program} {w : World} {K : PySem.W.Frag} {mg : Str → Option Value} {base : Heap} {X : Cx} {N : List Str} {sc fs : Scope} {k : Nat}
/-- a def of the text that keeps a promise -/
def Cl (P : Program) (w : World) (K : PySem.W.Frag) (mg : Str → Option Value) (base : Heap) (x : Str) (j : Nat) (sp : SpD) : Prop :=
  ∃ (f : Addr) (fd : FuncData) (ps : List Str), mg x = some (.ref f) ∧ PySem.W.keepIn K (.ref f) = true ∧ FnOk P w K mg base CX0 j f fd ps (hsp K sp) ∧ Binds K fd ps []
theorem de_callC {x : Str} {e : Expr} {es : List Expr} {ta : TDa} {p pos : Pos} {sp : SpD} {j : Nat} (c : Cok P w K mg base X N sc fs k) (hg : glB sc x = true) (C : Cl P w K mg base x j sp) (hj : j ≤ k)
    (ha : DA X (e :: es) ta) (he : starEach (e :: es) X.env = (false, eval e X.env) :: starEach es X.env := by rfl) (hpl : (backTo pos (starEach es X.env)).any (·.1) = false := by rfl) : DE X (.Call (.Name x p) (e :: es) [] pos) (qCall sp ta) := by
  obtain ⟨f, fd, ps, hm, hk, G, b⟩ := C
  exact de_call c hg hm hk G hj b ha he hpl
theorem de_gint {x : Str} {i : Int} {pos : Pos} (c : Cok P w K mg base X N sc fs k) (hg : glB sc x = true) (hm : ∃ t, mg x = some (.int i t)) : DE X (.Name x pos) (qc (.d (.int i))) := by
  obtain ⟨t, hm⟩ := hm
  have g := gl_of c hg
  exact ⟨⟨_, pe_glob g.1 (by rw [c.hmg]; exact hm) (v := .int i) ⟨t, rfl⟩ g.2.2, fun F σ H ε st Qd Q R E q kk => kk.at R (.d (.int i)) q⟩⟩
theorem Cok.hu65 (c : Cok P w K mg base X N sc fs k) : X.A.units + 64 < cLine := c.hu64
theorem rp_all : ∀ {F : Hp} (ns : List Int), RpAll K F (ns.map V.int) (ns.map .int)
  | _, [] => .nil
  | _, n :: ns => .cons (.int n) (rp_all ns)
/-- the law's entry -/
theorem law_start {sp : SpD} {n : Nat} (h : ∀ ns : List Int, ns.length ≤ n → sp [.d (.list (ns.map .int))] (fun _ => none) (fun x _ => x = .d (.bool true))) {H : Hp} {a : Addr} {ns : List Int} {E : XK} (hl : ns.length ≤ n) (hb : Only H) (hS : SqL K H a (ns.map V.int)) (hn : tB.T = [] := by rfl) : hsp K sp [.ref a] H (fun v _ => v = .bl true) E :=
  ⟨H, fun _ => none, _, _, ⟨fun _ _ e => ⟨e, rfl⟩, fun _ _ e => (nomatch e), fun p hp => by rw [hn] at hp; cases hp⟩, .cons (.d (.lst hS (rp_all ns))) .nil, h ns hl, fun F v H' x st' _ _ r q => by subst q; exact rv_bool r⟩
/-- [f x for x in xs if p x], nothing of the store touched -/
theorem comp_fm {inv : Sto → Prop} {g : TDg} {tt : TDt} {te : TD} {ε : Env} {Kc : List DV → Sto → Prop} {st : Sto} (p : DV → Bool) (f : DV → DV) (hi : inv st) : ∀ (xs acc : List DV),
    (∀ x ∈ xs, ∀ (Q1 : DV → Sto → Prop) (Q2 : Sto → Prop), (if p x = true then Q1 (f x) st else Q2 st) → g x ε st fun ε1 s1 => tt ε1 s1 fun b s2 => if b = true then te ε1 s2 Q1 else Q2 s2) → Kc (acc ++ (xs.filter p).map f) st → qComp inv g tt te ε Kc xs acc st
  | [], acc, _, h => ⟨hi, by rw [List.filter_nil, List.map_nil, List.append_nil] at h; exact h⟩
  | x :: xs, acc, hx, h => by
    refine ⟨hi, ?_⟩
    refine hx x List.mem_cons_self (fun y s3 => qComp inv g tt te ε Kc xs (acc ++ [y]) s3) (fun s2 => qComp inv g tt te ε Kc xs acc s2) ?_
    cases e : p x with
    | true =>
      rw [if_pos rfl]
      refine comp_fm p f hi xs (acc ++ [f x]) (fun y hy => hx y (List.mem_cons_of_mem _ hy)) ?_
      rw [List.filter_cons, if_pos e, List.map_cons] at h
      rw [List.append_assoc]
      exact h
    | false =>
      rw [if_neg Bool.false_ne_true]
      refine comp_fm p f hi xs acc (fun y hy => hx y (List.mem_cons_of_mem _ hy)) ?_
      rw [List.filter_cons, if_neg (by rw [e]; exact Bool.false_ne_true)] at h
      exact h
theorem seq {t u : TDs} {D : EndsD} {ε : Env} {st : Sto} (h : ∀ N : Env → Sto → Prop, (∀ ε s, u D ε s → N ε s) → t { D with nx := N } ε st) : qSeq t u D ε st := h _ fun _ _ x => x
/-- a for, its items known -/
theorem for_by {inv : Sto → Prop} {g : TDg} {tb : TDs} {D : EndsD} {xs : List DV} {ε : Env} {st : Sto} (W : List DV → Env → Sto → Prop) (h0 : W xs ε st) (hi : ∀ ys ε st, W ys ε st → inv st)
    (hs : ∀ x ys ε st, x ∈ xs → W (x :: ys) ε st → ∀ L : Env → Sto → Prop, (∀ ε' st', W ys ε' st' → L ε' st') → g x ε st fun ε1 s1 => tb { D with nx := L, ct := L, bk := D.nx } ε1 s1) (hd : ∀ ε st, W [] ε st → D.nx ε st) : qLoop inv g tb D xs ε st := by
  have : ∀ ys ε st, (∀ y ∈ ys, y ∈ xs) → W ys ε st → qLoop inv g tb D ys ε st := by
    intro ys
    induction ys with
    | nil => exact fun ε st _ h => ⟨hi _ _ _ h, hd _ _ h⟩
    | cons y ys ih => exact fun ε st hy h => ⟨hi _ _ _ h, hs y ys ε st (hy y List.mem_cons_self) h _ fun ε' st' => ih ε' st' fun z hz => hy z (List.mem_cons_of_mem _ hz)⟩
  exact this xs ε st (fun _ z => z) h0
end
end DL
end
section
set_option Elab.async false
set_option linter.all false
set_option maxRecDepth 100000
set_option maxHeartbeats 4000000
namespace DL
open PySem L2 PyProof.Rows
def lexL : List Int → List Int → Bool
  | [], [] => false
  | [], _ :: _ => true
  | _ :: _, [] => false
  | x :: xs, y :: ys => decide (x < y) || (decide (x = y) && lexL xs ys)
theorem lexL_irr : ∀ x : List Int, lexL x x = false
  | [] => rfl
  | x :: xs => by simp [lexL, lexL_irr xs]
theorem lexL_tr : ∀ {x y z : List Int}, lexL x y = true → lexL y z = true → lexL x z = true
  | [], [], _, h, _ => by cases h
  | [], _ :: _, [], _, h => by cases h
  | [], _ :: _, _ :: _, _, _ => rfl
  | _ :: _, [], _, h, _ => by cases h
  | _ :: _, _ :: _, [], _, h => by cases h
  | x :: xs, y :: ys, z :: zs, h1, h2 => by
    simp only [lexL, Bool.or_eq_true, Bool.and_eq_true, decide_eq_true_eq] at h1 h2 ⊢
    rcases h1 with h1 | ⟨h1, h3⟩ <;> rcases h2 with h2 | ⟨h2, h4⟩
    · exact .inl (by omega)
    · exact .inl (by omega)
    · exact .inl (by omega)
    · exact .inr ⟨by omega, lexL_tr h3 h4⟩
theorem lexL_tri : ∀ (x y : List Int), lexL x y = true ∨ x = y ∨ lexL y x = true
  | [], [] => .inr (.inl rfl)
  | [], _ :: _ => .inl rfl
  | _ :: _, [] => .inr (.inr rfl)
  | x :: xs, y :: ys => by
    simp only [lexL, Bool.or_eq_true, Bool.and_eq_true, decide_eq_true_eq, List.cons.injEq]
    rcases Int.lt_trichotomy x y with h | h | h
    · exact .inl (.inl h)
    · rcases lexL_tri xs ys with k | k | k
      · exact .inl (.inr ⟨h, k⟩)
      · exact .inr (.inl ⟨h, k⟩)
      · exact .inr (.inr (.inr ⟨h.symm, k⟩))
    · exact .inr (.inr (.inl h))
/-- strictly rising -/
abbrev RisL (l : List (List Int)) : Prop := l.Pairwise fun x y => lexL x y = true
def insU (x : List Int) : List (List Int) → List (List Int)
  | [] => [x]
  | y :: l => if x = y then y :: l else if lexL x y = true then x :: y :: l else y :: insU x l
def sortU (l : List (List Int)) : List (List Int) := l.foldr insU []
theorem mem_insU {x z : List Int} : ∀ {l : List (List Int)}, z ∈ insU x l ↔ z = x ∨ z ∈ l
  | [] => by simp [insU]
  | y :: l => by
    unfold insU
    split
    · rename_i h
      subst h
      simp
    · split
      · simp
      · simp only [List.mem_cons, mem_insU (l := l)]
        constructor
        · rintro (h | h | h)
          · exact .inr (.inl h)
          · exact .inl h
          · exact .inr (.inr h)
        · rintro (h | h | h)
          · exact .inr (.inl h)
          · exact .inl h
          · exact .inr (.inr h)
theorem ris_insU {x : List Int} : ∀ {l : List (List Int)}, RisL l → RisL (insU x l)
  | [], _ => List.pairwise_singleton _ _
  | y :: l, h => by
    obtain ⟨h1, h2⟩ := List.pairwise_cons.mp h
    unfold insU
    split
    · exact h
    · rename_i hne
      split
      · rename_i hl
        refine List.pairwise_cons.mpr ⟨fun z hz => ?_, h⟩
        rcases List.mem_cons.mp hz with rfl | hz
        · exact hl
        · exact lexL_tr hl (h1 z hz)
      · rename_i hl
        refine List.pairwise_cons.mpr ⟨fun z hz => ?_, ris_insU h2⟩
        rcases mem_insU.mp hz with rfl | hz
        · rcases lexL_tri z y with k | k | k
          · exact absurd k hl
          · exact absurd k hne
          · exact k
        · exact h1 z hz
theorem mem_sortU {z : List Int} : ∀ {l : List (List Int)}, z ∈ sortU l ↔ z ∈ l
  | [] => Iff.rfl
  | x :: l => by
    show z ∈ insU x (sortU l) ↔ _
    rw [mem_insU, mem_sortU (l := l), List.mem_cons]
theorem ris_sortU : ∀ (l : List (List Int)), RisL (sortU l)
  | [] => List.Pairwise.nil
  | x :: l => ris_insU (ris_sortU l)
theorem ris_eq : ∀ {l m : List (List Int)}, RisL l → RisL m → (∀ x, x ∈ l ↔ x ∈ m) → l = m
  | [], [], _, _, _ => rfl
  | [], y :: m, _, _, h => absurd ((h y).mpr List.mem_cons_self) (by simp)
  | x :: l, [], _, _, h => absurd ((h x).mp List.mem_cons_self) (by simp)
  | x :: l, y :: m, hl, hm, h => by
    obtain ⟨l1, l2⟩ := List.pairwise_cons.mp hl
    obtain ⟨m1, m2⟩ := List.pairwise_cons.mp hm
    have e : x = y := by
      rcases List.mem_cons.mp ((h x).mp List.mem_cons_self) with e | hx
      · exact e
      · rcases List.mem_cons.mp ((h y).mpr List.mem_cons_self) with e | hy
        · exact e.symm
        · have := lexL_tr (l1 y hy) (m1 x hx)
          rw [lexL_irr] at this
          cases this
    subst e
    refine congrArg (x :: ·) (ris_eq l2 m2 fun z => ?_)
    constructor
    · intro hz
      rcases List.mem_cons.mp ((h z).mp (List.mem_cons_of_mem _ hz)) with e | hz'
      · subst e
        have := l1 z hz
        rw [lexL_irr] at this
        cases this
      · exact hz'
    · intro hz
      rcases List.mem_cons.mp ((h z).mpr (List.mem_cons_of_mem _ hz)) with e | hz'
      · subst e
        have := m1 z hz
        rw [lexL_irr] at this
        cases this
      · exact hz'
theorem sortU_eq {l m : List (List Int)} (hm : RisL m) (h : ∀ x, x ∈ l ↔ x ∈ m) : sortU l = m := ris_eq (ris_sortU l) hm fun x => mem_sortU.trans (h x)
theorem sortU_len : ∀ (l : List (List Int)), (sortU l).length ≤ l.length := by
  have : ∀ (x : List Int) (l : List (List Int)), (insU x l).length ≤ l.length + 1 := by
    intro x l
    induction l with
    | nil => simp [insU]
    | cons y l ih =>
      unfold insU
      split
      · simp
      · split
        · simp
        · simp; omega
  intro l
  induction l with
  | nil => exact Nat.le_refl _
  | cons x l ih =>
    have := this x (sortU l)
    show (insU x (sortU l)).length ≤ _
    rw [List.length_cons]
    omega
def tints : List DV → Option (List (List Int))
  | [] => some []
  | .d (.tuple xs) :: r => (match dints (xs.map .d) with | some a => (tints r).map (a :: ·) | none => none)
  | _ :: _ => none
theorem tints_map : ∀ l : List (List Int), tints ((l.map fun a => PyData.tuple (a.map .int)).map .d) = some l
  | [] => rfl
  | a :: l => by
    have e : dints ((a.map PyData.int).map DV.d) = some a := by rw [List.map_map]; exact dints_map a
    rw [List.map_cons, List.map_cons, tints, e, tints_map l]
    rfl
section
variable {P : Program} {w : World} {K : PySem.W.Frag} {mg : Str → Option Value} {base : Heap} {X : Cx} {N : List Str} {sc fs : Scope} {k : Nat}
theorem tints_rvs {F : Hp} : ∀ {vs : List V} {xs : List DV} {ts : List (List Int)}, RVs K F vs xs → tints xs = some ts → ∃ ks : List (Addr × List Int), vs = ks.map (fun p => V.ref p.1) ∧ ts = ks.map (·.2) ∧ ∀ p ∈ ks, F p.1 = some (.tup (p.2.map V.int))
  | _, [], ts, r, h => by cases h; cases r; exact ⟨[], rfl, rfl, fun p hp => nomatch hp⟩
  | v :: vs, .d (.tuple ds) :: xs, ts, .cons r q, h => by
    unfold tints at h
    split at h
    · rename_i a ea
      cases e : tints xs with
      | none => rw [e] at h; cases h
      | some l =>
        rw [e] at h
        cases h
        obtain ⟨ks, h1, h2, h3⟩ := tints_rvs q e
        cases r with
        | d r =>
          cases r with
          | tup q2 s2 =>
            rename_i p ws
            obtain ⟨e1, _⟩ := dints_rvs s2.rvs ea
            subst e1
            refine ⟨(p, a) :: ks, by rw [h1]; rfl, by rw [h2]; rfl, fun z hz => ?_⟩
            rcases List.mem_cons.mp hz with e | hz
            · rw [e]; exact q2
            · exact h3 z hz
    · cases h
  | _, .d .none :: _, _, _, h => by cases h
  | _, .d (.bool _) :: _, _, _, h => by cases h
  | _, .d (.int _) :: _, _, _, h => by cases h
  | _, .d (.str _) :: _, _, _, h => by cases h
  | _, .d (.list _) :: _, _, _, h => by cases h
  | _, .d (.dict _) :: _, _, _, h => by cases h
  | _, .r _ :: _, _, _, h => by cases h
  | _, .t _ :: _, _, _, h => by cases h
end
end DL
end
section
set_option Elab.async false
set_option linter.all false
set_option maxRecDepth 100000
set_option maxHeartbeats 4000000
namespace DL
open PySem L2 PyProof.Rows
variable [tB : Tb] [gR : Gr]
section
variable {P : Program} {w : World} {K : PySem.W.Frag} {mg : Str → Option Value} {base : Heap} {X : Cx} {N : List Str} {sc fs : Scope} {k : Nat}
theorem readsAll_of {h : Heap} : ∀ {vs : List Value} {ns : List Int}, IntsAre vs ns → ReadsAll h vs (ns.map .int) []
  | _, _, .nil => .nil
  | _, _, .cons n t r => .cons (.int n t) (readsAll_of r)
def rMax1 (K : PySem.W.Frag) : List V → Hp → VK → Prop := fun vs H Q => ∃ (a : Addr) (n : Int) (ns : List Int), vs = [V.ref a] ∧ (SqL K H a ((n :: ns).map V.int) ∨ SqT K H a ((n :: ns).map V.int)) ∧ Q (.int (ns.foldl max n)) H
theorem alike_ints (ns : List Int) : PySem.W.AlikeAll (ns.map PyData.int) := PySem.W.alikeAll_datum ns
theorem dep_ints : ∀ ns : List Int, PyData.depthAll (ns.map PyData.int) = 0
  | [] => rfl
  | n :: ns => by
    simp only [List.map_cons, PyData.depthAll, PyData.depth, dep_ints ns]
    rfl
theorem cr_max1 (hc : X.calm = true) (hu : X.A.units + 64 < cLine) : CallR X (.builtin "max") (rMax1 X.K) := by
  intro pins s σ H vs us Q I r h
  obtain ⟨a, n, ns, rfl, hs, q⟩ := h
  rw [Vals.ref1 r]
  have fin : ∀ (v : Value) h' tk bs, PySem.Reads h' v (PySem.W.maxD (.int n) (ns.map .int)) bs → (∀ b o, s.heap.get? b = some o → h'.get? b = some o) → ∃ x H', Inv X pins σ H' { s with heap := h', toks := tk } ∧ RelV x v ∧ Q x H' := by
    intro v h' tk bs hr hk
    rw [PySem.W.maxD_ints] at hr
    cases hr with
    | int _ t => exact ⟨.int _, H, I.kept fun b o e => hk b o e, ⟨t, rfl⟩, q⟩
  rcases hs with hs | hs
  · obtain ⟨its, rv, hl, _⟩ := I.list hs
    exact PySem.W.max_list_data (I.ok.hd hc) hl.isList (readsAll_of rv.ints) (alike_ints (n :: ns)) (by rw [← List.map_cons, dep_ints]; omega) fun i v h' tk bs _ hr hk => fin v h' tk bs hr hk
  · obtain ⟨its, rv, ⟨ol, o1, o2, m, o3⟩, _⟩ := I.tuple hs
    exact PySem.W.max_tuple_data (I.ok.hd hc) ⟨ol, o1, o2, m, o3⟩ (readsAll_of rv.ints) (alike_ints (n :: ns)) (by rw [← List.map_cons, dep_ints]; omega) fun i v h' tk bs _ hr hk => fin v h' tk bs hr hk
def qMax1 : RLD := fun xs st Q => match xs with
  | [x] => (match (sitems st x).bind dints with | some (n :: ns) => Q (.d (.int (ns.foldl max n))) st | _ => False)
  | _ => False
def qMin1 : RLD := fun xs st Q => match xs with
  | [x] => (match (sitems st x).bind dints with | some (n :: ns) => Q (.d (.int (ns.foldl min n))) st | _ => False)
  | _ => False
theorem c_max1 (hc : X.calm = true) (hu : X.A.units + 64 < cLine) : ∃ r', CallR X (.builtin "max") r' ∧ SL X.K r' qMax1 := by
  refine ⟨_, cr_max1 hc hu, ?_⟩
  intro F H st vs xs Qd Q R rv h kk
  unfold qMax1 at h
  split at h
  rotate_left
  · exact h.elim
  obtain ⟨v, rfl, r⟩ := rvs1 rv
  split at h
  rotate_left
  · exact h.elim
  rename_i n ns e
  obtain ⟨l, e1, e2⟩ := Option.bind_eq_some_iff.mp e
  obtain ⟨p, ys, rfl, hq, s⟩ := sitems_rv R r e1
  obtain ⟨rfl, _⟩ := dints_rvs s e2
  exact ⟨p, n, ns, rfl, hq, kk.at R (.d (.int _)) h⟩
end
end DL
end
section
set_option Elab.async false
set_option linter.all false
set_option maxRecDepth 100000
set_option maxHeartbeats 4000000
namespace DL
open PySem L2 PyProof.Rows
variable [tB : Tb] [gR : Gr]
section
variable {P : Program} {w : World} {K : PySem.W.Frag} {mg : Str → Option Value} {base : Heap} {X : Cx} {N : List Str} {sc fs : Scope} {k : Nat}
/-- [e for x in a if .. for y in b if ..] -/
def qCompO (inv : Sto → Prop) (g : TDg) (tt : TDt) (ti1 : TDi) (g1 : TDg) (tt1 : TDt) (te : TD) (vs1 : List Nat) (ε : Env) (Kc : List DV → Sto → Prop) : List DV → List DV → Sto → Prop
  | [], acc, st => inv st ∧ Kc acc st
  | x :: r, acc, st => inv st ∧ g x ε st fun ε1 s1 => tt ε1 s1 fun b s2 => if b = true then ti1 ε1 s2 fun items1 inv1 s3 => acc.length + items1.length ≤ sizeLine ∧ qComp inv1 g1 tt1 te (wipeD ε1 vs1) (fun acc' s4 => qCompO inv g tt ti1 g1 tt1 te vs1 ε Kc r acc' s4) items1 acc s3
      else qCompO inv g tt ti1 g1 tt1 te vs1 ε Kc r acc s2
theorem qCompO_inv {inv : Sto → Prop} {g : TDg} {tt : TDt} {ti1 : TDi} {g1 : TDg} {tt1 : TDt} {te : TD} {vs1 : List Nat} {ε : Env} {Kc : List DV → Sto → Prop} {l acc : List DV} {st : Sto} (h : qCompO inv g tt ti1 g1 tt1 te vs1 ε Kc l acc st) : inv st := by
  cases l with
  | nil => exact h.1
  | cons x r => exact h.1
def qLc2 (m : Bool) (ti : TDi) (g : TDg) (tt : TDt) (ti1 : TDi) (g1 : TDg) (tt1 : TDt) (te : TD) (vs vs1 : List Nat) : TD := fun ε st Q => ti ε st fun items inv s1 => qCompO inv g tt ti1 g1 tt1 te vs1 (wipeD ε vs) (fun acc s2 => newL m acc s2 Q) items [] s1
theorem comp2_sim {wi wi1 : TI} {g g1 : TG} {tt tt1 : TT} {te : TE} {ti ti1 : TDi} {gd gd1 : TDg} {ttd ttd1 : TDt} {ted : TD} {m : Bool} {vs vs1 ws ws1 : List Nat} (hv : ∀ i ∈ ws, i ∈ vs) (hv1 : ∀ i ∈ ws1, i ∈ vs1)
    (a0 : ∀ F σ H ε st Qd R', Rs K F H st → RE K F σ ε → ti ε st Qd → (∀ F' J H' items inv st', Step F H st F' H' st' → Rs K F' H' st' → Src K F' J items inv → Qd items inv st' → R' J H') → wi σ H R')
    (a1 : ∀ F σ H ε st v x Qd Q, Rs K F H st → RE K F σ ε → RV K F v x → gd x ε st Qd → (∀ F' σ' H' ε' st', Step F H st F' H' st' → Rs K F' H' st' → RE K F' σ' ε' → (∀ vs : List Nat, (∀ i ∈ ws, i ∈ vs) → wipe σ' vs = wipe σ vs) → Qd ε' st' → Q σ' H') → g v σ H Q)
    (a2 : Sg relT K tt ttd)
    (b0 : ∀ F σ H ε st Qd R', Rs K F H st → RE K F σ ε → ti1 ε st Qd → (∀ F' J H' items inv st', Step F H st F' H' st' → Rs K F' H' st' → Src K F' J items inv → Qd items inv st' → R' J H') → wi1 σ H R')
    (b1 : ∀ F σ H ε st v x Qd Q, Rs K F H st → RE K F σ ε → RV K F v x → gd1 x ε st Qd → (∀ F' σ' H' ε' st', Step F H st F' H' st' → Rs K F' H' st' → RE K F' σ' ε' → (∀ vs : List Nat, (∀ i ∈ ws1, i ∈ vs) → wipe σ' vs = wipe σ vs) → Qd ε' st' → Q σ' H') → g1 v σ H Q)
    (b2 : Sg relT K tt1 ttd1) (a3 : Sg (RV K) K te ted) : Sg (RV K) K (tLc2 wi g tt wi1 g1 tt1 te vs vs1) (qLc2 m ti gd ttd ti1 gd1 ttd1 ted vs vs1) := by
  intro F σ H ε st Qd Q R E h kk
  refine a0 F σ H ε st _ _ R E h fun F1 J H1 items inv st1 s1 R1 src q => ?_
  intro D hD
  obtain ⟨f0, d0⟩ := R1.free hD
  obtain ⟨R1', s1'⟩ := R1.hide (o := .lst []) hD
  refine ⟨fun i mm H' => i ≤ items.length ∧ mm = items.length - i ∧ ∃ F' st' acc accD, Step F1 H1 st1 F' H' st' ∧ Rs K F' H' st' ∧ H' D = some (.lst acc) ∧ F' D = none ∧ st' D = none ∧ RVs K F' acc accD ∧ qCompO inv gd ttd ti1 gd1 ttd1 ted vs1 (wipeD ε vs) (fun acc s2 => newL m acc s2 Qd) (items.drop i) accD st',
    ⟨items.length, Nat.zero_le _, by omega, F1, st1, [], [], s1', R1', upd_same, f0, d0, .nil, by rw [List.drop_zero]; exact q⟩, ?_⟩
  rintro i mm H2 ⟨hi, rfl, F2, st2, acc, accD, s2, R2, hD2, f2, d2, r2, q2⟩
  have iv := qCompO_inv q2
  obtain ⟨src1, src2⟩ := src F2 H2 st2 s2.ex R2 iv
  by_cases hlt : i < items.length
  · have ed : items.drop i = items[i] :: items.drop (i + 1) := List.drop_eq_getElem_cons hlt
    rw [ed] at q2
    obtain ⟨go, yl⟩ := src1 i items[i] (List.getElem?_eq_getElem hlt)
    refine .inr ⟨go, fun H' => ∃ F' st' acc accD, Step F1 H1 st1 F' H' st' ∧ Rs K F' H' st' ∧ H' D = some (.lst acc) ∧ F' D = none ∧ st' D = none ∧ RVs K F' acc accD ∧ qCompO inv gd ttd ti1 gd1 ttd1 ted vs1 (wipeD ε vs) (fun acc s2 => newL m acc s2 Qd) (items.drop (i + 1)) accD st',
      fun H' q' => ⟨items.length - (i + 1), by omega, hlt, rfl, q'⟩, fun v H3 y => ?_⟩
    obtain ⟨F3, s3, R3, r3⟩ := yl v H3 y
    have E3 : RE K F3 (wipe σ vs) (wipeD ε vs) := (E.mono (s1.trans (s2.trans s3)).ex).wipe vs
    refine a1 F3 _ H3 _ st2 v items[i] _ _ R3 E3 r3 q2.2 fun F4 σ4 H4 ε4 st4 s4 R4 E4 w4 q4 => ?_
    refine ⟨(w4 vs hv).trans (comp_sim.wipe_idem σ vs), ?_⟩
    refine a2 F4 σ4 H4 ε4 st4 _ _ R4 E4 q4 fun F5 b H5 b' st5 s5 R5 rb q5 => ?_
    cases rb
    have s25 := s2.trans (s3.trans (s4.trans s5))
    obtain ⟨hD5, f5, d5⟩ := (s3.trans (s4.trans s5)).hid hD2 f2 d2
    have r5 := r2.mono (s3.trans (s4.trans s5)).ex
    cases b with
    | false => exact ⟨F5, st5, acc, accD, s25, R5, hD5, f5, d5, r5, q5⟩
    | true =>
      refine b0 F5 σ4 H5 ε4 st5 _ _ R5 (E4.mono s5.ex) q5 fun F6 J1 H6 items1 inv1 st6 s6 R6 srcB q6 => ?_
      obtain ⟨hsz, q6⟩ := q6
      have s26 := s25.trans s6
      obtain ⟨hD6, f6, d6⟩ := s6.hid hD5 f5 d5
      have al : acc.length = accD.length := r2.length
      refine ⟨fun j kk' H' => j ≤ items1.length ∧ kk' = items1.length - j ∧ ∃ F' st' acc' accD', Step F1 H1 st1 F' H' st' ∧ (∀ a o, F6 a = some o → F' a = some o) ∧ Rs K F' H' st' ∧ H' D = some (.lst acc') ∧ F' D = none ∧ st' D = none ∧ RVs K F' acc' accD' ∧ acc'.length ≤ acc.length + j ∧
          qComp inv1 gd1 ttd1 ted (wipeD ε4 vs1) (fun acc' s4 => qCompO inv gd ttd ti1 gd1 ttd1 ted vs1 (wipeD ε vs) (fun acc s2 => newL m acc s2 Qd) (items.drop (i + 1)) acc' s4) (items1.drop j) accD' st',
        ⟨items1.length, Nat.zero_le _, by omega, F6, st6, acc, accD, s26, fun _ _ z => z, R6, hD6, f6, d6, r5.mono s6.ex, by omega, by rw [List.drop_zero]; exact q6⟩, ?_⟩
      rintro j kk' H7 ⟨hj, rfl, F7, st7, acc', accD', s7, e7, R7, hD7, f7, d7, r7, l7, q7⟩
      have iv1 := qComp_inv q7
      obtain ⟨srcB1, srcB2⟩ := srcB F7 H7 st7 e7 R7 iv1
      by_cases hlt1 : j < items1.length
      · have ed1 : items1.drop j = items1[j] :: items1.drop (j + 1) := List.drop_eq_getElem_cons hlt1
        rw [ed1] at q7
        obtain ⟨go1, yl1⟩ := srcB1 j items1[j] (List.getElem?_eq_getElem hlt1)
        refine .inr ⟨go1, fun H' => ∃ F' st' acc' accD', Step F1 H1 st1 F' H' st' ∧ (∀ a o, F6 a = some o → F' a = some o) ∧ Rs K F' H' st' ∧ H' D = some (.lst acc') ∧ F' D = none ∧ st' D = none ∧ RVs K F' acc' accD' ∧ acc'.length ≤ acc.length + (j + 1) ∧
            qComp inv1 gd1 ttd1 ted (wipeD ε4 vs1) (fun acc' s4 => qCompO inv gd ttd ti1 gd1 ttd1 ted vs1 (wipeD ε vs) (fun acc s2 => newL m acc s2 Qd) (items.drop (i + 1)) acc' s4) (items1.drop (j + 1)) accD' st',
          fun H' q' => ⟨items1.length - (j + 1), by omega, hlt1, rfl, q'⟩, fun v H8 y => ?_⟩
        obtain ⟨F8, s8, R8, r8⟩ := yl1 v H8 y
        have E8 : RE K F8 (wipe σ4 vs1) (wipeD ε4 vs1) := ((E4.mono s5.ex).mono (fun a o z => s8.ex a o (e7 a o (s6.ex a o z)))).wipe vs1
        refine b1 F8 _ H8 _ st7 v items1[j] _ _ R8 E8 r8 q7.2 fun F9 σ9 H9 ε9 st9 s9 R9 E9 w9 q9 => ?_
        refine ⟨(w9 vs1 hv1).trans (comp_sim.wipe_idem σ4 vs1), ?_⟩
        refine b2 F9 σ9 H9 ε9 st9 _ _ R9 E9 q9 fun Fa b Ha b' sta sa Ra rb qa => ?_
        cases rb
        have s8a := s8.trans (s9.trans sa)
        obtain ⟨hDa, fa, da⟩ := s8a.hid hD7 f7 d7
        have ea := fun x o z => s8a.ex x o (e7 x o z)
        cases b with
        | true =>
          refine a3 Fa σ9 Ha ε9 sta _ _ Ra (E9.mono sa.ex) qa fun Fb yv Hb y' stb sb Rb ry qb => ?_
          obtain ⟨hDb, fb, db⟩ := sb.hid hDa fa da
          refine ⟨acc', hDb, by omega, Fb, stb, acc' ++ [yv], accD' ++ [y'], ((s7.trans s8a).trans sb).hput hD, fun x o z => sb.ex x o (ea x o z), Rb.hput fb db hDb R1 ((s7.trans s8a).trans sb) hD, upd_same, fb, db, (r7.mono (s8a.trans sb).ex).append (.cons ry .nil), by rw [List.length_append]; simp only [List.length_singleton]; omega, qb⟩
        | false => exact ⟨Fa, sta, acc', accD', s7.trans s8a, ea, Ra, hDa, fa, da, r7.mono s8a.ex, by omega, qa⟩
      · have e : j = items1.length := by omega
        subst e
        rw [List.drop_length] at q7
        exact .inl ⟨srcB2, F7, st7, acc', accD', s7, R7, hD7, f7, d7, r7, q7.2⟩
  · have e : i = items.length := by omega
    subst e
    rw [List.drop_length] at q2
    exact .inl ⟨src2, seen_lst R1 s2 hD R2 hD2 f2 d2 r2 q2.2 (kk.step s1)⟩
theorem de_lc2 {elt tg iter tg1 iter1 : Expr} {ifs ifs1 : List Expr} {scope : Scope} {pos : Pos} {ti ti1 : TDi} {g g1 : TDg} {tt tt1 : TDt} {te : TD} {ws ws1 : List Nat} (m : Bool) (own : List (Str × Nat)) (vs1 : List Nat) (c : Cok P w K mg base X N sc fs k) (hb : blkC N sc scope own = true) (hw : ∀ i ∈ ws, i ∈ own.map (·.2)) (hw1 : ∀ i ∈ ws1, i ∈ vs1) (hv : ∀ i ∈ vs1, i ∈ own.map (·.2)) (hi : DI X tg iter ti)
    (hg : ∀ X', Cok P w K mg base X' N (relS scope sc) scope k → DG X' tg ws g) (ht : ∀ X', Cok P w K mg base X' N (relS scope sc) scope k → DTs X' ifs tt)
    (hi1 : ∀ X', Cok P w K mg base X' N (relS scope sc) scope k → DI X' tg1 iter1 ti1)
    (hg1 : ∀ X', Cok P w K mg base X' N (relS scope sc) scope k → DG X' tg1 ws1 g1) (ht1 : ∀ X', Cok P w K mg base X' N (relS scope sc) scope k → DTs X' ifs1 tt1)
    (he : ∀ X', Cok P w K mg base X' N (relS scope sc) scope k → DE X' elt te)
    (hs : ∀ x, foldedSetIterable iter X.env x = pure x := by intro _; rfl) (hs1 : ∀ env x, foldedSetIterable iter1 env x = pure x := by intro _ _; rfl) : DE X (.ListComp elt [⟨tg, iter, ifs, 0⟩, ⟨tg1, iter1, ifs1, 0⟩] scope pos) (qLc2 m ti g tt ti1 g1 tt1 te (own.map (·.2)) vs1) := by
  have ok : BlkOk X.N X.env.scope scope own := by
    rw [c.hN, c.hs]
    exact blkOk_by hb
  have cb := fun s H C cl fp => c.blk (scope := scope) ok.kind s H C cl fp
  obtain ⟨wi, p0, a0⟩ := hi
  refine ⟨⟨_, pe_lc2 (g := liftG X.K ws g) (tt := DL.lift relT X.K tt) (wi1 := liftI X.K ti1) (g1 := liftG X.K ws1 g1) (tt1 := DL.lift relT X.K tt1) (te := DL.lift (RV X.K) X.K te) (vs1 := vs1) c.calm (by rw [c.hN]; exact c.nd) p0 ok hv (fun s H C cl fp => (hg _ (cb s H C cl fp)).lift) (fun s H C cl fp => (ht _ (cb s H C cl fp)).lift)
      (fun s H C cl fp => (hi1 _ (cb s H C cl fp)).lift) (fun s H C cl fp => (hg1 _ (cb s H C cl fp)).lift) (fun s H C cl fp => (ht1 _ (cb s H C cl fp)).lift) (fun s H C cl fp => (he _ (cb s H C cl fp)).lift) hs hs1,
    comp2_sim hw hw1 a0 (fun F σ H ε st v x Qd Q R E r q kk => ⟨F, ε, st, x, Qd, R, E, r, q, kk⟩) lift_sg (fun F σ H ε st Qd R' R E q kk => ⟨F, ε, st, Qd, R, E, q, kk⟩) (fun F σ H ε st v x Qd Q R E r q kk => ⟨F, ε, st, x, Qd, R, E, r, q, kk⟩) lift_sg lift_sg⟩⟩
end
end DL
end
section
set_option Elab.async false
set_option linter.all false
set_option maxRecDepth 100000
set_option maxHeartbeats 4000000
namespace DL
open PySem L2 PyProof.Rows
variable [tB : Tb] [gR : Gr]
section
variable {P : Program} {w : World} {K : PySem.W.Frag} {mg : Str → Option Value} {base : Heap} {X : Cx} {N : List Str} {sc fs : Scope} {k : Nat}
/-- f(e, ..), f a module's name of a built-in function -/
theorem de_fun {x : Str} {e : Expr} {es : List Expr} {ta : TDa} {p pos : Pos} {id : String} {r : RLD} (c : Cok P w K mg base X N sc fs k) (hg : glB sc x = true) (hm : mg x = some (.builtin id)) (hc : ∃ r', CallR X (.builtin id) r' ∧ SL X.K r' r)
    (ha : DA X (e :: es) ta) (he : starEach (e :: es) X.env = (false, eval e X.env) :: starEach es X.env := by rfl) (hpl : (backTo pos (starEach es X.env)).any (·.1) = false := by rfl) : DE X (.Call (.Name x p) (e :: es) [] pos) (qCB r ta) := by
  obtain ⟨t1, p1, a1⟩ := ha
  obtain ⟨r', h1, h2⟩ := hc
  have g := gl_of c hg
  refine ⟨⟨_, pe_callBfun h1 g.1 (by rw [c.hmg]; exact hm) p1 g.2.2 he hpl, fun F σ H ε st Qd Q R E h kk => a1.go R E h kk fun F1 H1 s1 v x R1 E1 rv q kk => h2 F1 H1 s1 v x _ _ R1 rv q kk⟩⟩
def rComb : List V → Hp → VK → Prop := fun vs H Q => ∃ a b : Int, vs = [.int a, .int b] ∧ 0 ≤ a ∧ 0 ≤ b ∧ a < 2 ^ 64 ∧ (b ≤ 9000 ∨ a ≤ 18000) ∧ Q (.int (PySem.W.mcComb a b)) H
theorem cr_comb : CallR X (.builtin "math.comb") rComb := by
  intro pins s σ H vs us Q I r h
  obtain ⟨a, b, rfl, h0, h1, h2, h3, q⟩ := h
  obtain ⟨t, u, rfl⟩ := Vals.int2 r
  exact PySem.W.mc_comb h0 h1 h2 h3 fun _ => ⟨.int _, H, I.tok _, ⟨_, rfl⟩, q⟩
def qComb : RLD := fun xs st Q => match xs with
  | [.d (.int a), .d (.int b)] => 0 ≤ a ∧ 0 ≤ b ∧ a < 2 ^ 64 ∧ (b ≤ 9000 ∨ a ≤ 18000) ∧ Q (.d (.int (PySem.W.mcComb a b))) st
  | _ => False
theorem c_comb : ∃ r', CallR X (.builtin "math.comb") r' ∧ SL X.K r' qComb := by
  refine ⟨_, cr_comb, ?_⟩
  intro F H st vs xs Qd Q R rv h kk
  unfold qComb at h
  split at h
  · obtain ⟨v, w, rfl, r1, r2⟩ := rvs2 rv
    cases rv_int r1
    cases rv_int r2
    exact ⟨_, _, rfl, h.1, h.2.1, h.2.2.1, h.2.2.2.1, kk.at R (.d (.int _)) h.2.2.2.2⟩
  · exact h.elim
def qGcd : RLD := fun xs st Q => match xs with
  | [.d (.int a), .d (.int b)] => Q (.d (.int ((Nat.gcd a.natAbs b.natAbs : Nat) : Int))) st
  | _ => False
end
end DL
end
section
set_option Elab.async false
set_option linter.all false
set_option maxRecDepth 100000
set_option maxHeartbeats 4000000
namespace DL
open PySem PySem.Spec L2 PyProof.Rows
variable [tB : Tb] [gR : Gr]
section
variable {P : Program} {w : World} {K : PySem.W.Frag} {mg : Str → Option Value} {base : Heap} {X : Cx} {N : List Str} {sc fs : Scope} {k : Nat}
/-- list(range(e)) -/
def qListRg (m : Bool) (te : TD) : TD := fun ε st Q => te ε st fun x s1 => match x with
  | .d (.int n) => 0 ≤ n ∧ n ≤ 16777216 ∧ newL m (rngD 0 n.toNat) s1 Q
  | _ => False
end
end DL
end
section
set_option Elab.async false
set_option linter.all false
set_option maxRecDepth 100000
set_option maxHeartbeats 4000000
namespace BS
open PySem L2
/-- the masks that come -/
def MaskB (m : Nat) : Prop := m = 7 ∨ m = 31 ∨ m = 127 ∨ m = 511 ∨ m = 2047 ∨ m = 8191
/-- the slots that n steps from i meet, as bits -/
def bitsOf (m : Nat) : Nat → Nat → Nat → Nat
  | 0, _, acc => acc
  | n + 1, i, acc => bitsOf m n ((i * 5 + 1) % (m + 1)) (acc ||| (1 <<< i))
theorem bitsOf_spec (m : Nat) : ∀ (n a acc j : Nat), (bitsOf m n (lcgN m a) acc).testBit j = true → acc.testBit j = true ∨ ∃ b, b < n ∧ lcgN m (a + b) = j
  | 0, _, _, _, h => .inl h
  | n + 1, a, acc, j, h => by
    rcases bitsOf_spec m n (a + 1) _ j h with h | ⟨b, hb, e⟩
    · rw [Nat.testBit_or, Bool.or_eq_true] at h
      rcases h with h | h
      · exact .inl h
      · refine .inr ⟨0, Nat.zero_lt_succ _, ?_⟩
        rw [Nat.shiftLeft_eq, Nat.one_mul, Nat.testBit_two_pow] at h
        exact of_decide_eq_true h
    · exact .inr ⟨b + 1, by omega, by rw [show a + (b + 1) = a + 1 + b by omega]; exact e⟩
theorem met {m : Nat} (h : bitsOf m (m + 1) 0 0 = 2 ^ (m + 1) - 1) {j : Nat} (hj : j ≤ m) : ∃ b, b ≤ m ∧ lcgN m b = j := by
  have e : (bitsOf m (m + 1) (lcgN m 0) 0).testBit j = true := by
    show (bitsOf m (m + 1) 0 0).testBit j = true
    rw [h, Nat.testBit_two_pow_sub_one]
    exact decide_eq_true (by omega)
  rcases bitsOf_spec m (m + 1) 0 0 j e with h | ⟨b, hb, e⟩
  · rw [Nat.zero_testBit] at h
    cases h
  · exact ⟨b, by omega, by rw [← e, Nat.zero_add]⟩
theorem all7 : bitsOf 7 8 0 0 = 2 ^ 8 - 1 := by decide +kernel
theorem all31 : bitsOf 31 32 0 0 = 2 ^ 32 - 1 := by decide +kernel
theorem all127 : bitsOf 127 128 0 0 = 2 ^ 128 - 1 := by decide +kernel
theorem all511 : bitsOf 511 512 0 0 = 2 ^ 512 - 1 := by decide +kernel
theorem all2047 : bitsOf 2047 2048 0 0 = 2 ^ 2048 - 1 := by decide +kernel
theorem all8191 : bitsOf 8191 8192 0 0 = 2 ^ 8192 - 1 := by decide +kernel
theorem lcg_met {m : Nat} (hm : MaskB m) {j : Nat} (hj : j ≤ m) : ∃ b, b ≤ m ∧ lcgN m b = j := by
  rcases hm with rfl | rfl | rfl | rfl | rfl | rfl
  · exact met all7 hj
  · exact met all31 hj
  · exact met all127 hj
  · exact met all511 hj
  · exact met all2047 hj
  · exact met all8191 hj
/-- the last step of a round, without the steps -/
def lastOf (m : Nat) : Nat → Nat → Nat
  | 0, i => i
  | n + 1, i => lastOf m n ((i * 5 + 1) % (m + 1))
theorem lastOf_spec (m : Nat) : ∀ (n a : Nat), lastOf m n (lcgN m a) = lcgN m (a + n)
  | 0, _ => rfl
  | n + 1, a => by
    have := lastOf_spec m n (a + 1)
    rw [show a + (n + 1) = a + 1 + n by omega]
    exact this
theorem round7 : lastOf 7 8 0 = 0 := by decide +kernel
theorem round31 : lastOf 31 32 0 = 0 := by decide +kernel
theorem round127 : lastOf 127 128 0 = 0 := by decide +kernel
theorem round511 : lastOf 511 512 0 = 0 := by decide +kernel
theorem round2047 : lastOf 2047 2048 0 = 0 := by decide +kernel
theorem round8191 : lastOf 8191 8192 0 = 0 := by decide +kernel
theorem lcg_again {m : Nat} (hm : MaskB m) : lcgN m (m + 1) = 0 := by
  have key : ∀ m, lastOf m (m + 1) 0 = 0 → lcgN m (m + 1) = 0 := fun m h => by
    have := lastOf_spec m (m + 1) 0
    rw [Nat.zero_add] at this
    rw [← this]
    exact h
  rcases hm with rfl | rfl | rfl | rfl | rfl | rfl
  · exact key _ round7
  · exact key _ round31
  · exact key _ round127
  · exact key _ round511
  · exact key _ round2047
  · exact key _ round8191
theorem lcg_per {m : Nat} (hm : MaskB m) (k : Nat) : lcgN m (m + 1 + k) = lcgN m k := by
  induction k with
  | zero => exact lcg_again hm
  | succ k ih =>
    show (lcgN m (m + 1 + k) * 5 + 1) % (m + 1) = _
    rw [ih]
    rfl
/-- each slot begins a run early enough -/
theorem run_met {m : Nat} (hm : MaskB m) (h : Int) {j : Nat} (hj : j ≤ m) : ∃ n, n ≤ m + 12 ∧ runI m (SetTable.bits h) n = j := by
  obtain ⟨a, ha, ea⟩ := lcg_met hm (runI_le m (SetTable.bits h) 12)
  obtain ⟨b, hb, eb⟩ := lcg_met hm hj
  have step : ∀ k, runI m (SetTable.bits h) (12 + k) = lcgN m (a + k) := fun k => by rw [runI_tail (bits_lt h), ← ea, lcgN_add]
  by_cases c : b < a
  · refine ⟨12 + (b + (m + 1) - a), by omega, ?_⟩
    rw [step, show a + (b + (m + 1) - a) = m + 1 + b by omega, lcg_per hm, eb]
  · refine ⟨12 + (b - a), by omega, ?_⟩
    rw [step, show a + (b - a) = b by omega, eb]
theorem way_met {m : Nat} (hm : MaskB m) (h : Int) {j : Nat} (hj : j ≤ m) : ∃ k, k < 10 * SetTable.turns m ∧ way m h k = j := by
  obtain ⟨n, hn, e⟩ := run_met hm h hj
  obtain ⟨k, hk, e2⟩ := run_nth m (SetTable.bits h) n
  refine ⟨k, by unfold SetTable.turns; omega, ?_⟩
  show (nth m (runAt m (SetTable.bits h % (m + 1)) (SetTable.bits h)) k).j = j
  rw [e2]
  exact e
theorem way_in (m : Nat) (h : Int) (k : Nat) : way m h k ≤ m := by
  have hi : SetTable.bits h % (m + 1) ≤ m := Nat.le_of_lt_succ (Nat.mod_lt _ (Nat.succ_pos _))
  have r := runEnd_bd hi
  have q := nth_in (m := m) k (runAt m (SetTable.bits h % (m + 1)) (SetTable.bits h)) (show SetTable.bits h % (m + 1) + (SetTable.runEnd m (SetTable.bits h % (m + 1)) - SetTable.bits h % (m + 1)) ≤ m by omega)
  show (nth m (runAt m (SetTable.bits h % (m + 1)) (SetTable.bits h)) k).j ≤ m
  omega
theorem odd {m : Nat} (h : MaskB m) : m % 2 = 1 := by
  rcases h with rfl | rfl | rfl | rfl | rfl | rfl <;> rfl
theorem turns_le {m : Nat} (h : MaskB m) : 10 * SetTable.turns m < 100000 := by
  unfold SetTable.turns
  rcases h with rfl | rfl | rfl | rfl | rfl | rfl <;> decide
end BS
end
section
set_option Elab.async false
set_option linter.all false
set_option maxRecDepth 100000
set_option maxHeartbeats 4000000
namespace BS
open PySem L2
/-- a table in which each hash is met on its way ahead of any empty slot -/
structure Tb (t : SetTable) (hs : List Int) : Prop where
  ris : L2.Ris t.place.toList
  dm : t.dummies = #[]
  sz : t.place.toList.length = hs.length
  mok : MaskB t.mask
  bd : ∀ x ∈ t.place.toList, x ≤ t.mask
  reach : ∀ (i : Nat) (h : Int) (j : Nat), hs[i]? = some h → t.place.toList[i]? = some j → ∃ k, way t.mask h k = j ∧ ∀ k', k' < k → way t.mask h k' ∈ t.place.toList
theorem Tb.first {t : SetTable} {hs : List Int} (T : Tb t hs) (hl : hs.length ≤ t.mask) (h : Int) : ∃ K, K < 10 * SetTable.turns t.mask ∧ way t.mask h K ∉ t.place.toList ∧ ∀ k, k < K → way t.mask h k ∈ t.place.toList := by
  obtain ⟨j, hj, hn⟩ := st_missing t.place.toList (t.mask + 1) (by rw [T.sz]; omega)
  obtain ⟨k, hk, rfl⟩ := way_met T.mok h (j := j) (by omega)
  obtain ⟨K, h1, h2, h3⟩ := st_least (p := fun k => way t.mask h k ∉ t.place.toList) k hn
  exact ⟨K, by omega, h2, fun k' hk' => Classical.byContradiction fun c => h3 k' hk' c⟩
theorem Tb.before {t : SetTable} {hs : List Int} (T : Tb t hs) {h : Int} {K i j : Nat} (hK : way t.mask h K ∉ t.place.toList) (hi : hs[i]? = some h) (hj : t.place.toList[i]? = some j) : ∃ k, k < K ∧ way t.mask h k = j := by
  obtain ⟨k, e, hb⟩ := T.reach i h j hi hj
  refine ⟨k, Classical.byContradiction fun c => ?_, e⟩
  by_cases d : K = k
  · subst d
    exact hK (e ▸ List.mem_of_getElem? hj)
  · exact hK (hb K (by omega))
theorem Tb.put {t : SetTable} {hs : List Int} (T : Tb t hs) {h : Int} {K : Nat} (hK : way t.mask h K ∉ t.place.toList) (hb : ∀ k, k < K → way t.mask h k ∈ t.place.toList) :
    SetTable.below t.place (way t.mask h K) ≤ hs.length ∧ Tb (t.put (way t.mask h K)).1 (hs.take (SetTable.below t.place (way t.mask h K)) ++ h :: hs.drop (SetTable.below t.place (way t.mask h K))) ∧ (t.put (way t.mask h K)).1.fill = hs.length + 1 := by
  have hjm := way_in t.mask h K
  generalize hj : way t.mask h K = j at *
  have hp : SetTable.below t.place j ≤ t.place.toList.length := by
    rw [Array.length_toList]
    exact (below_cut T.ris j).1
  have hph : SetTable.below t.place j ≤ hs.length := by rw [← T.sz]; exact hp
  have hpp := put_place t j
  have hlen : (t.put j).1.place.toList.length = hs.length + 1 := by rw [hpp, len_ins _ hp, T.sz]
  have up : ∀ {x : Nat}, x ∈ t.place.toList → x ∈ (t.put j).1.place.toList := fun hx => by
    rw [hpp]
    exact mem_ins.2 (.inr hx)
  refine ⟨hph, ⟨ris_insert T.ris fun e => hK (List.mem_of_getElem? (by rw [Array.getElem?_toList]; exact e)), put_dm T.dm j, ?_, T.mok, fun x hx => ?_, fun i h' j' h1 h2 => ?_⟩, ?_⟩
  · rw [hlen, len_ins _ hph]
  · rw [hpp] at hx
    rcases mem_ins.1 hx with rfl | z
    · exact hjm
    · exact T.bd x z
  · rw [tins_get hs hph] at h1
    rw [hpp, tins_get _ hp] at h2
    show ∃ k, way t.mask h' k = j' ∧ ∀ k', k' < k → way t.mask h' k' ∈ (t.put j).1.place.toList
    have old : ∀ i', hs[i']? = some h' → t.place.toList[i']? = some j' → ∃ k, way t.mask h' k = j' ∧ ∀ k', k' < k → way t.mask h' k' ∈ (t.put j).1.place.toList := fun i' a b => by
      obtain ⟨k, e, z⟩ := T.reach i' h' j' a b
      exact ⟨k, e, fun k' hk' => up (z k' hk')⟩
    by_cases c : i < SetTable.below t.place j
    · rw [if_pos c] at h1 h2
      exact old i h1 h2
    · rw [if_neg c] at h1 h2
      by_cases d : i = SetTable.below t.place j
      · rw [if_pos d] at h1 h2
        cases h1
        cases h2
        exact ⟨K, hj, fun k' hk' => up (hb k' hk')⟩
      · rw [if_neg d] at h1 h2
        exact old (i - 1) h1 h2
  · show (t.put j).1.place.size + (t.put j).1.dummies.size = hs.length + 1
    rw [← Array.length_toList, hlen, put_dm T.dm j]
    rfl
theorem free_at {m : Nat} (hm : MaskB m) (owner : Array (Option Nat)) (h : Int) {j : Nat} (hj : j ≤ m) (hf : oAt owner j = none) :
    ∃ K, SetTable.layClean.free m owner (SetTable.turns m) (SetTable.bits h % (m + 1)) (SetTable.bits h) = some (way m h K) ∧ oAt owner (way m h K) = none ∧ ∀ k, k < K → oAt owner (way m h k) ≠ none := by
  obtain ⟨n, hn, e⟩ := run_met hm h hj
  have hw : way m h (off m (SetTable.bits h % (m + 1)) (SetTable.bits h) n) = j := by
    show (nth m (runAt m (SetTable.bits h % (m + 1)) (SetTable.bits h)) _).j = j
    rw [nth_off, itL_run]
    exact e
  obtain ⟨K, k1, k2, k3⟩ := st_least (p := fun k => oAt owner (way m h k) = none) _ (show oAt owner (way m h (off m (SetTable.bits h % (m + 1)) (SetTable.bits h) n)) = none by rw [hw]; exact hf)
  refine ⟨K, free_spec m owner (SetTable.turns m) n _ _ K (by unfold SetTable.turns; omega) k1 (fun k hk => ?_) ?_, k2, k3⟩
  · cases z : oAt owner (nth m (runAt m (SetTable.bits h % (m + 1)) (SetTable.bits h)) k).j with
    | none => exact absurd z (k3 k hk)
    | some _ => rfl
  · show (oAt owner (way m h K)).isNone = true
    rw [k2]
    rfl
theorem own_step {m : Nat} (hm : MaskB m) {done : List Int} {owner : Array (Option Nat)} (W : Own m done owner) (hl : done.length ≤ m) (h : Int) :
    ∃ j, SetTable.layClean.free m owner (SetTable.turns m) (SetTable.bits h % (m + 1)) (SetTable.bits h) = some j ∧ Own m (done ++ [h]) (owner.setIfInBounds j (some done.length)) := by
  obtain ⟨ps, hps, hin⟩ := W.ps
  obtain ⟨j0, h0, hn0⟩ := st_missing ps (m + 1) (by omega)
  have hj0 : oAt owner j0 = none := Classical.byContradiction fun z => hn0 (hin j0 (by omega) z)
  obtain ⟨K, e1, e2, e3⟩ := free_at hm owner h (show j0 ≤ m by omega) hj0
  have hjm := way_in m h K
  refine ⟨way m h K, e1, ?_⟩
  generalize hw : way m h K = x at *
  have hself : oAt (owner.setIfInBounds x (some done.length)) x = some done.length := oAt_set_self _ (by rw [W.sz]; omega)
  have keep : ∀ {i : Nat}, i ≠ x → oAt (owner.setIfInBounds x (some done.length)) i = oAt owner i := fun c => oAt_set_ne _ c
  have mono : ∀ {i : Nat}, oAt owner i ≠ none → oAt (owner.setIfInBounds x (some done.length)) i ≠ none := fun {i} hi => by
    by_cases c : i = x
    · rw [c, hself]; exact nofun
    · rw [keep c]; exact hi
  refine ⟨by rw [Array.size_setIfInBounds]; exact W.sz, fun j k hj e => ?_, fun k hk => ?_, ⟨x :: ps, by simp [hps], fun j hj e => ?_⟩⟩
  · by_cases c : j = x
    · rw [c, hself] at e
      cases e
      exact ⟨h, K, by simp, by rw [hw, c], fun k' hk' => mono (e3 k' hk')⟩
    · rw [keep c] at e
      obtain ⟨h', K', a1, a2, a3⟩ := W.at_ j k hj e
      refine ⟨h', K', ?_, a2, fun k' hk' => mono (a3 k' hk')⟩
      rw [List.getElem?_append_left (List.getElem?_eq_some_iff.mp a1).1]
      exact a1
  · rw [List.length_append, List.length_singleton] at hk
    by_cases c : k < done.length
    · obtain ⟨j, hj, e⟩ := W.all k c
      exact ⟨j, hj, by rw [keep (fun z => by rw [z, e2] at e; cases e)]; exact e⟩
    · rw [show k = done.length by omega]
      exact ⟨x, hjm, hself⟩
  · by_cases c : j = x
    · rw [c]; exact List.mem_cons_self
    · rw [keep c] at e
      exact List.mem_cons_of_mem _ (hin j hj e)
theorem own_all {m : Nat} (hm : MaskB m) : ∀ (rest done : List Int) (owner : Array (Option Nat)), Own m done owner → done.length + rest.length ≤ m →
    ∃ owner', rest.foldl (stepF m) (some (owner, done.length)) = some (owner', (done ++ rest).length) ∧ Own m (done ++ rest) owner'
  | [], done, owner, W, _ => ⟨owner, by simp, by simpa using W⟩
  | h :: rest, done, owner, W, hl => by
    rw [List.length_cons] at hl
    obtain ⟨j, e, W'⟩ := own_step hm W (by omega) h
    obtain ⟨owner', f, W2⟩ := own_all hm rest (done ++ [h]) _ W' (by simp; omega)
    refine ⟨owner', ?_, by simpa using W2⟩
    rw [List.foldl_cons, stepF_some e]
    simpa using f
theorem clean_ok {m : Nat} (hm : MaskB m) {hs : Array Int} (hn : hs.size ≤ m) : ∃ owner, SetTable.layClean m hs = some owner ∧ Own m hs.toList owner := by
  obtain ⟨owner, f, W⟩ := own_all hm hs.toList [] _ (Own.init m) (by simpa using hn)
  refine ⟨owner, ?_, by simpa using W⟩
  rw [layClean_eq]
  have f' : hs.toList.foldl (stepF m) (some (Array.replicate (m + 1) none, 0)) = some (owner, ([] ++ hs.toList).length) := f
  rw [f']
  rfl
theorem relaid_as (t : SetTable) {hs : Array Int} {wanted M : Nat} (hw : SetTable.sizeAbove wanted - 1 = M) (hM : MaskB M) (hn : hs.size ≤ M) :
    ∃ t' order, t.relaid hs wanted = some (t', order) ∧ order.toList.Perm (List.range hs.size) ∧ Tb t' (order.toList.map fun i => hs.getD i 0) ∧ t'.mask = M ∧ t'.led = t.led ∧ t'.plain = t.plain := by
  obtain ⟨owner, e, W⟩ := clean_ok hM hn
  have hz : hs.toList.length = hs.size := rfl
  obtain ⟨r1, r2⟩ : L2.Ris ((liveOf M owner).map (·.1)) ∧ ∀ x ∈ (liveOf M owner).map (·.1), x ∈ List.range (M + 1) := ris_live (fun j => owner.getD j none) (List.range (M + 1)) (by
    unfold L2.Ris
    first | exact List.pairwise_lt_range | exact List.pairwise_lt_range _)
  have nd : ((liveOf M owner).map (·.1)).Nodup := List.Pairwise.imp (fun h => Nat.ne_of_lt h) r1
  have hlen : (liveOf M owner).length = hs.size := by
    obtain ⟨ps, p1, p2⟩ := W.ps
    have a := nat_nodup_len _ ps nd fun x hx => by
      obtain ⟨⟨y, k⟩, hq, rfl⟩ := List.mem_map.mp hx
      obtain ⟨b1, b2⟩ := (mem_live W.sz).1 hq
      exact p2 y b1 (by rw [b2]; exact nofun)
    have b := nat_nodup_len (List.range hs.size) ((liveOf M owner).map (·.2)) List.nodup_range fun k hk => by
      obtain ⟨j, b1, b2⟩ := W.all k (List.mem_range.mp hk)
      exact List.mem_map.mpr ⟨(j, k), (mem_live W.sz).2 ⟨b1, b2⟩, rfl⟩
    rw [List.length_map, p1] at a
    rw [List.length_map, List.length_range] at b
    omega
  refine ⟨tabOf t M owner, ((liveOf M owner).map (·.2)).toArray, by rw [relaid_eq, hw, e]; rfl, perm_range hs.size _ (by show ((liveOf M owner).map (·.2)).length = _; rw [List.length_map]; exact hlen) fun k hk => ?_, ⟨r1, rfl, ?_, hM, fun x hx => ?_, fun i h j h1 h2 => ?_⟩, rfl, rfl, rfl⟩
  · obtain ⟨j, b1, b2⟩ := W.all k hk
    exact List.mem_map.mpr ⟨(j, k), (mem_live W.sz).2 ⟨b1, b2⟩, rfl⟩
  · show ((liveOf M owner).map (·.1)).length = (((liveOf M owner).map (·.2)).map fun i => hs.getD i 0).length
    simp
  · have := List.mem_range.mp (r2 x hx)
    show x ≤ M
    omega
  · have h1' : (((liveOf M owner).map (·.2)).map fun i => hs.getD i 0)[i]? = some h := h1
    have h2' : ((liveOf M owner).map (·.1))[i]? = some j := h2
    rw [List.getElem?_map, List.getElem?_map] at h1'
    rw [List.getElem?_map] at h2'
    cases hq : (liveOf M owner)[i]? with
    | none => rw [hq] at h2'; cases h2'
    | some q =>
      obtain ⟨y, k⟩ := q
      rw [hq] at h1' h2'
      cases h2'
      have eh : hs.getD k 0 = h := Option.some.inj h1'
      obtain ⟨b1, b2⟩ := (mem_live W.sz).1 (List.mem_of_getElem? hq)
      obtain ⟨h0, K, a1, a2, a3⟩ := W.at_ y k b1 b2
      have e0 : hs.getD k 0 = h0 := by
        rw [Array.getD_eq_getD_getElem?, ← Array.getElem?_toList, a1]
        rfl
      rw [e0] at eh
      subst eh
      refine ⟨K, a2, fun k' hk' => ?_⟩
      show way M h0 k' ∈ (liveOf M owner).map (·.1)
      cases z : oAt owner (way M h0 k') with
      | none => exact absurd z (a3 k' hk')
      | some k2 => exact List.mem_map.mpr ⟨(way M h0 k', k2), (mem_live W.sz).2 ⟨way_in M h0 k', z⟩, rfl⟩
theorem size_5 : SetTable.sizeAbove (SetTable.grown 5) = 32 := by decide +kernel
theorem size_19 : SetTable.sizeAbove (SetTable.grown 19) = 128 := by decide +kernel
theorem size_77 : SetTable.sizeAbove (SetTable.grown 77) = 512 := by decide +kernel
theorem size_307 : SetTable.sizeAbove (SetTable.grown 307) = 2048 := by decide +kernel
theorem size_1229 : SetTable.sizeAbove (SetTable.grown 1229) = 8192 := by decide +kernel
end BS
end
section
set_option Elab.async false
set_option linter.all false
set_option maxRecDepth 100000
set_option maxHeartbeats 4000000
namespace BS
open PySem PySem.Spec L2 PyProof.Rows
section
variable {P : Program} {w : World} {A : Around} {E : Value → Shared → Prop} {s : Shared}
structure SetB (P : Program) (w : World) (h : Heap) (a : Addr) (L : List (Addr × List Int)) (es : Array (Int × Value)) (ep : Nat) (t : SetTable) : Prop where
  ob : ∃ o, h.get? a = some o ∧ o.ExactSet ∧ o.data = .set es ep t
  rows : es.toList = rowsOf P w L
  tab : Tb t (L.map fun p => thash P w p.2)
  nd : (L.map (·.2)).Nodup
  tup : ∀ p ∈ L, IsT P w h p.2 p.1
  plain : t.plain = true
  led : w.params.followText "set-order" = true ∨ t.led = true
  room : L.length * 5 < t.mask * 3
variable {a : Addr} {L : List (Addr × List Int)} {es : Array (Int × Value)} {ep : Nat} {t : SetTable}
theorem rows_len {es : Array (Int × Value)} (h : es.toList = rowsOf P w L) : es.size = L.length := by
  have := congrArg List.length h
  simpa [rowsOf] using this
theorem fits_of {t : SetTable} {n : Nat} (h1 : t.place.toList.length = n) (h2 : t.dummies = #[]) (h3 : n ≤ t.mask) : t.fits n = true := by
  unfold SetTable.fits SetTable.fill
  rw [h2, Bool.and_eq_true, beq_iff_eq, decide_eq_true_eq, ← Array.length_toList, h1]
  exact ⟨rfl, h3⟩
theorem SetB.sz (R : SetB P w s.heap a L es ep t) : t.place.toList.length = L.length := by
  rw [R.tab.sz, List.length_map]
theorem SetB.fits (R : SetB P w s.heap a L es ep t) : t.fits es.size = true := by
  have := R.room
  exact fits_of (by rw [R.sz, rows_len R.rows]) R.tab.dm (by rw [rows_len R.rows]; omega)
theorem SetB.entry (R : SetB P w s.heap a L es ep t) {i : Nat} {p : Addr × List Int} (h : L[i]? = some p) : es[i]? = some (thash P w p.2, Value.ref p.1) := by
  rw [← Array.getElem?_toList, R.rows]
  unfold rowsOf
  rw [List.getElem?_map, h]
  rfl
theorem SetB.gw (R : SetB P w s.heap a L es ep t) : ¬ t.gaveWay = true := by
  unfold SetTable.gaveWay
  rw [odd R.tab.mok]
  decide
theorem nth_dummy (m : Nat) : ∀ (n : Nat) (p : SetTable.Probe), p.dummy = none → (nth m p n).dummy = none
  | 0, _, h => h
  | n + 1, p, h => nth_dummy m n (adv m p) (by unfold adv; split <;> exact h)
/-- the way's c-th state -/
abbrev stt (m : Nat) (h : Int) (c : Nat) : SetTable.Probe := nth m (runAt m (SetTable.bits h % (m + 1)) (SetTable.bits h)) c
theorem stt_add (m : Nat) (h : Int) (c q : Nat) : nth m (stt m h c) q = stt m h (c + q) := (nth_add m c _ q).symm
theorem stt_j (m : Nat) (h : Int) (c q : Nat) : (nth m (stt m h c) q).j = way m h (c + q) := congrArg SetTable.Probe.j (stt_add m h c q)
/-- the search, from the c-th state on -/
theorem seek (R : SetB P w s.heap a L es ep t) {x : Addr} {k : List Int} (hx : IsT P w s.heap k x) (hu : A.units < cLine) {K : Nat} (hKf : K < 10 * SetTable.turns t.mask)
    (hK : way t.mask (thash P w k) K ∉ t.place.toList) (hKb : ∀ c, c < K → way t.mask (thash P w k) c ∈ t.place.toList) {Q : SetFound → Shared → Prop}
    (hin : k ∈ L.map (·.2) → Q (.there none) s) (hout : k ∉ L.map (·.2) → Q (.free (way t.mask (thash P w k) K) false) s) :
    ∀ (f c : Nat) (stand : Option SetTable.Probe), stand.getD (t.probeStart (thash P w k)) = stt t.mask (thash P w k) c → c ≤ K → K - c < f →
      (∀ (i : Nat) p, L[i]? = some p → p.2 = k → ∃ c', c ≤ c' ∧ c' < K ∧ t.place.toList[i]? = some (way t.mask (thash P w k) c')) →
      wpAny (model P w) A (setSearchFrom a (.ref x) (thash P w k) true f stand) Q E s := by
  intro f
  induction f with
  | zero => intro c stand _ _ hf; exact absurd hf (Nat.not_lt_zero _)
  | succ f ih =>
  intro c stand hst hc hf hre
  obtain ⟨o, ho, hex, hd⟩ := R.ob
  rw [setSearchFrom_succ]
  refine wpAny_bind (wpAny_setState_of ho hd R.fits ?_)
  dsimp only
  refine wp_if_neg R.gw ?_
  try refine wpAny_bind (wpAny_pure ?_)
  have ha : ∀ (i : Nat) p, L[i]? = some p → (fun i => (es[i]?.map (·.1)).getD 0) i = thash P w p.2 := fun i p hp => by
    show (es[i]?.map (·.1)).getD 0 = _
    rw [R.entry hp]
    rfl
  rcases go_spec t R.tab.ris R.tab.dm (fun i => (es[i]?.map (·.1)).getD 0) (thash P w k) (10 * SetTable.turns t.mask) (K - c) _ (nth_dummy t.mask c _ rfl) (by omega)
      (fun q hq => by rw [stt_j]; exact hKb (c + q) (by omega)) (by rw [stt_j, show c + (K - c) = K by omega]; exact hK) with ⟨q, i, hq, hi, hh, hno, hpr⟩ | ⟨hno, hpr⟩
  · have hpr' : t.probe (fun i => (es[i]?.map (·.1)).getD 0) (thash P w k) (stand.getD (t.probeStart (thash P w k))) = some (.candidate (way t.mask (thash P w k) (c + q)) i (stt t.mask (thash P w k) (c + (q + 1)))) := by
      rw [hst, ← stt_j, ← stt_add]
      exact hpr
    rw [hpr']
    dsimp only
    rw [stt_j] at hi
    have hil : i < L.length := by
      rw [← R.sz]
      exact (List.getElem?_eq_some_iff.mp hi).1
    have hp : L[i]? = some L[i] := List.getElem?_eq_getElem hil
    generalize hpe : L[i] = p at hp
    have hmem : p ∈ L := List.mem_of_getElem? hp
    have rest : wpAny (model P w) A (searchRest a (.ref x) (thash P w k) true f es t (way t.mask (thash P w k) (c + q)) i (stt t.mask (thash P w k) (c + (q + 1)))) Q E s := by
      unfold searchRest
      rw [R.entry hp]
      dsimp only
      refine wpAny_bind (wpAny_holding (wpAny_eqBool_tuple hu (R.tup p hmem) hx ?_))
      refine wpAny_bind (wpAny_setState_of ho hd R.fits ?_)
      dsimp only
      by_cases hkk : p.2 = k
      · refine wp_if_pos (by simp [hkk]) ?_
        exact wpAny_pure (hin (List.mem_map.mpr ⟨p, hmem, hkk⟩))
      · refine wp_if_neg (by simp [hkk]) ?_
        try refine wpAny_bind (wpAny_pure ?_)
        rw [sameMem]
        dsimp only
        have hsl : t.slot (way t.mask (thash P w k) (c + q)) = .live i := slot_live R.tab.ris hi
        simp only [if_true, hsl, R.entry hp]
        refine wpAny_bind (wpAny_isSame_ref_self (wpAny_bind (wpAny_pure ?_)))
        simp only [if_true]
        refine wp_if_neg (by simp [hkk]) ?_
        refine ih (c + (q + 1)) _ rfl (by omega) (by omega) fun i0 p0 h0 hk0 => ?_
        obtain ⟨c', a1, a2, a3⟩ := hre i0 p0 h0 hk0
        refine ⟨c', Classical.byContradiction fun z => ?_, a2, a3⟩
        by_cases y : c' = c + q
        · subst y
          have s0 := slot_live R.tab.ris a3
          rw [hsl] at s0
          injection s0 with s0
          subst s0
          rw [hp] at h0
          cases h0
          exact hkk hk0
        · refine hno (c' - c) i0 (by omega) (by rw [stt_j, show c + (c' - c) = c' by omega]; exact a3) ?_
          exact (ha i0 p0 h0).trans (congrArg (thash P w) hk0)
    by_cases hl : t.led = true
    · refine wp_if_neg (by simp [hl]) ?_
      try refine wpAny_bind (wpAny_pure ?_)
      exact rest
    · refine wp_if_pos (by simp [hl]) ?_
      refine wpAny_bind (seen_tup hx (fun y hy => ?_) ?_)
      · obtain ⟨e, he, ee⟩ := List.mem_map.mp hy
        have he1 : e ∈ es ∧ e.1 = thash P w k := by simpa using he
        have he2 : e ∈ es.toList := by simpa using he1.1
        rw [R.rows] at he2
        obtain ⟨p2, hp2, e2⟩ := List.mem_map.mp he2
        exact ⟨p2.2, p2.1, by rw [← ee, ← e2], R.tup p2 hp2⟩
      · refine wp_if_neg (by decide) ?_
        try refine wpAny_bind (wpAny_pure ?_)
        exact rest
  · have hpr' : t.probe (fun i => (es[i]?.map (·.1)).getD 0) (thash P w k) (stand.getD (t.probeStart (thash P w k))) = some (.empty (way t.mask (thash P w k) K) none) := by
      have e2 : way t.mask (thash P w k) K = (nth t.mask (stt t.mask (thash P w k) c) (K - c)).j := by rw [stt_j, show c + (K - c) = K by omega]
      rw [hst, e2]
      exact hpr
    rw [hpr']
    dsimp only
    refine wpAny_pure (hout fun hm => ?_)
    obtain ⟨p0, h0, hk0⟩ := List.mem_map.mp hm
    obtain ⟨i0, h00⟩ := List.mem_iff_getElem?.mp h0
    obtain ⟨c', a1, a2, a3⟩ := hre i0 p0 h00 hk0
    exact hno (c' - c) i0 (by omega) (by rw [stt_j, show c + (c' - c) = c' by omega]; exact a3) ((ha i0 p0 h00).trans (congrArg (thash P w) hk0))
theorem seek_add (R : SetB P w s.heap a L es ep t) {x : Addr} {k : List Int} (hx : IsT P w s.heap k x) (hu : A.units < cLine) {Q : SetFound → Shared → Prop}
    (hin : k ∈ L.map (·.2) → Q (.there none) s)
    (hout : ∀ K, k ∉ L.map (·.2) → way t.mask (thash P w k) K ∉ t.place.toList → (∀ c, c < K → way t.mask (thash P w k) c ∈ t.place.toList) → Q (.free (way t.mask (thash P w k) K) false) s) :
    wpAny (model P w) A (setSearch a (.ref x) (thash P w k) true) Q E s := by
  have hroom := R.room
  obtain ⟨K, hKf, hK, hKb⟩ := R.tab.first (by rw [List.length_map]; omega) (thash P w k)
  have hbig := turns_le R.tab.mok
  unfold setSearch
  refine seek R hx hu hKf hK hKb hin (fun hn => hout K hn hK hKb) 100000 0 none rfl (Nat.zero_le _) (by omega) fun i p hp hk => ?_
  have hi : (L.map fun p => thash P w p.2)[i]? = some (thash P w k) := by rw [List.getElem?_map, hp, ← hk]; rfl
  have hil : i < t.place.toList.length := by
    rw [R.sz]
    exact (List.getElem?_eq_some_iff.mp hp).1
  have hj := List.getElem?_eq_getElem hil
  obtain ⟨c, hc, e⟩ := R.tab.before hK hi hj
  exact ⟨c, Nat.zero_le _, hc, by rw [hj, e]⟩
end
end BS
end
section
set_option Elab.async false
set_option linter.all false
set_option maxRecDepth 100000
set_option maxHeartbeats 4000000
namespace BS
open PySem PySem.Spec L2 PyProof.Rows
section
variable {P : Program} {w : World} {A : Around} {E : Value → Shared → Prop} {s : Shared} {a : Addr} {L : List (Addr × List Int)} {es : Array (Int × Value)} {ep : Nat} {t : SetTable}
theorem lay {o : Obj} (ho : s.heap.get? a = some o) (hex : o.ExactSet) (hd : o.data = .set es ep t) (hrows : es.toList = rowsOf P w L) (T0 : Tb t (L.map fun p => thash P w p.2)) (hfl : L.length ≤ t.mask)
    (nd : (L.map (·.2)).Nodup) (tup : ∀ p ∈ L, IsT P w s.heap p.2 p.1) (pl : t.plain = true) (ld : w.params.followText "set-order" = true ∨ t.led = true) {wanted M : Nat}
    (hw : SetTable.sizeAbove wanted - 1 = M) (hM : MaskB M) (hw2 : SetTable.sizeAbove wanted ≤ 8192) (hn : L.length * 5 < M * 3) {Q : Unit → Shared → Prop}
    (hQ : ∀ h' L' es' ep' t', Heap.SameBut a s.heap h' → SetB P w h' a L' es' ep' t' → L'.Perm L → Q () { s with heap := h' }) : wpAny (model P w) A (setRelay a wanted) Q E s := by
  have hsl := rows_len hrows
  have hfits : t.fits es.size = true := fits_of (by rw [T0.sz, List.length_map, hsl]) T0.dm (by rw [hsl]; exact hfl)
  obtain ⟨t', order, e, hp, T, em, el, epl⟩ := relaid_as t (hs := es.map (·.1)) (wanted := wanted) hw hM (by rw [Array.size_map, hsl]; omega)
  rw [Array.size_map, hsl] at hp
  obtain ⟨L2, r1, r2, r3⟩ := order_rows L es order hrows hp
  rw [← r3] at T
  have hs2 : (order.filterMap (es[·]?)).size = es.size := by rw [rows_len r1, r2.length_eq, hsl]
  have hM2 : L.length < 8192 := by
    rcases hM with rfl | rfl | rfl | rfl | rfl | rfl <;> omega
  rw [setRelay_eq]
  refine wpAny_bind (wpAny_setState_of ho hd hfits ?_)
  dsimp only
  refine wp_if_neg (by rw [sizeLine_eq]; omega) ?_
  try refine wpAny_bind (wpAny_pure ?_)
  rw [e]
  dsimp only
  refine wpAny_bind ?_
  refine wp_if_neg (by rw [hs2]; simp) ?_
  try refine wpAny_bind (wpAny_pure ?_)
  refine wpAny_pure ?_
  dsimp only
  refine wpAny_storeSet_of ho hd ?_ (by rw [hs2, hsl, sizeLine_eq]; omega)
  have sb : Heap.SameBut a s.heap (s.heap.update a (Obj.putSet (order.filterMap (es[·]?)) t')) := Heap.SameBut.update ..
  exact hQ _ L2 (order.filterMap (es[·]?)) (ep + 1) t' sb ⟨⟨_, store_at ho hd, ⟨hex.1, hex.2.1, hex.2.2⟩, rfl⟩, r1, T, (r2.map (·.2)).nodup_iff.mpr nd, fun p hpm => isT_same (tup p (r2.mem_iff.mp hpm)) ho hd sb, by rw [epl]; exact pl, by rw [el]; exact ld, by rw [r2.length_eq, em]; exact hn⟩ r2
/-- when a table is too full, the next is -/
theorem next_mask {m n : Nat} (hm : MaskB m) (hroom : n * 5 < m * 3) (hfull : (n + 1) * 5 ≥ m * 3) (hn : n < 4000) :
    ∃ M, SetTable.sizeAbove (SetTable.grown (n + 1)) - 1 = M ∧ MaskB M ∧ SetTable.sizeAbove (SetTable.grown (n + 1)) ≤ 8192 ∧ (n + 1) * 5 < M * 3 := by
  have key : ∀ (c S : Nat), n + 1 = c → SetTable.sizeAbove (SetTable.grown c) = S → MaskB (S - 1) → S ≤ 8192 → c * 5 < (S - 1) * 3 → ∃ M, SetTable.sizeAbove (SetTable.grown (n + 1)) - 1 = M ∧ MaskB M ∧ SetTable.sizeAbove (SetTable.grown (n + 1)) ≤ 8192 ∧ (n + 1) * 5 < M * 3 := by
    intro c S h1 h2 h3 h4 h5
    subst h1
    exact ⟨S - 1, by rw [h2], h3, by rw [h2]; exact h4, h5⟩
  rcases hm with rfl | rfl | rfl | rfl | rfl | rfl
  · exact key 5 32 (by omega) size_5 (.inr (.inl rfl)) (by decide) (by decide)
  · exact key 19 128 (by omega) size_19 (.inr (.inr (.inl rfl))) (by decide) (by decide)
  · exact key 77 512 (by omega) size_77 (.inr (.inr (.inr (.inl rfl)))) (by decide) (by decide)
  · exact key 307 2048 (by omega) size_307 (.inr (.inr (.inr (.inr (.inl rfl))))) (by decide) (by decide)
  · exact key 1229 8192 (by omega) size_1229 (.inr (.inr (.inr (.inr (.inr rfl))))) (by decide) (by decide)
  · omega
theorem add (R : SetB P w s.heap a L es ep t) {x : Addr} {k : List Int} (hx : IsT P w s.heap k x) (hu : A.units < cLine) (hfew : L.length < 4000) {Q : Bool → Shared → Prop}
    (hQ : ∀ b h' L' es' ep' t', Heap.SameBut a s.heap h' → SetB P w h' a L' es' ep' t' → (k ∈ L.map (·.2) → L' = L) → (k ∉ L.map (·.2) → L'.Perm ((x, k) :: L)) → Q b { s with heap := h' }) :
    wpAny (model P w) A (setAddHashed a (.ref x) (thash P w k)) Q E s := by
  obtain ⟨o, ho, hex, hd⟩ := R.ob
  have hsl := rows_len R.rows
  have hroom := R.room
  unfold setAddHashed
  refine wpAny_holding ?_
  rw [show (100000 : Nat) = 99999 + 1 from rfl, setAddHashedIn_succ]
  refine wpAny_bind (wpAny_setState_of ho hd R.fits ?_)
  dsimp only
  refine wp_if_neg (by simp [byScan, Value.scannable]) ?_
  try refine wpAny_bind (wpAny_pure ?_)
  refine wpAny_bind (seek_add R hx hu (fun hm => ?_) fun K hm hK hb => ?_)
  · dsimp only
    exact wpAny_pure (hQ false s.heap L es ep t (Heap.SameBut.refl a s.heap) R (fun _ => rfl) fun z => absurd hm z)
  · dsimp only
    refine wpAny_bind (wpAny_setState_of ho hd R.fits ?_)
    dsimp only
    obtain ⟨q2, q3, q9⟩ := R.tab.put hK hb
    have q1 : (t.put (way t.mask (thash P w k) K)).2 = SetTable.below t.place (way t.mask (thash P w k) K) := rfl
    have q4 : (t.put (way t.mask (thash P w k) K)).1.mask = t.mask := rfl
    have q5 : (t.put (way t.mask (thash P w k) K)).1.led = t.led := rfl
    have hp1 : (t.put (way t.mask (thash P w k) K)).1.plain = true := R.plain
    generalize hpt : t.put (way t.mask (thash P w k) K) = pt at q1 q3 q4 q5 q9 hp1 ⊢
    obtain ⟨t1, p⟩ := pt
    dsimp only at q1 q3 q4 q5 q9 hp1 ⊢
    subst q1
    first
      | (refine wpAny_bind ?_; refine wp_if_pos hp1 ?_; refine hashBy_tup hx ?_)
      | refine wp_if_pos hp1 (wpAny_bind (hashBy_tup hx ?_))
    simp only [if_true]
    have hin : (SetTable.insertAt es (SetTable.below t.place (way t.mask (thash P w k) K)) (thash P w k, Value.ref x)).toList = rowsOf P w (L.take (SetTable.below t.place (way t.mask (thash P w k) K)) ++ (x, k) :: L.drop (SetTable.below t.place (way t.mask (thash P w k) K))) := by
      rw [SetTable.toList_insertAt, rows_put, R.rows]
    generalize SetTable.below t.place (way t.mask (thash P w k) K) = p at q2 q3 hin ⊢
    have pm := put_perm L p (x, k)
    have hlen : (L.take p ++ (x, k) :: L.drop p).length = L.length + 1 := pm.length_eq
    have hhs : (L.take p ++ (x, k) :: L.drop p).map (fun p => thash P w p.2) = (L.map fun p => thash P w p.2).take p ++ thash P w k :: (L.map fun p => thash P w p.2).drop p := by
      rw [List.map_append, List.map_cons, List.map_take, List.map_drop]
    rw [← hhs] at q3
    have nd1 : ((L.take p ++ (x, k) :: L.drop p).map (·.2)).Nodup := by
      refine (pm.map (·.2)).nodup_iff.mpr ?_
      rw [List.map_cons]
      exact List.nodup_cons.mpr ⟨hm, R.nd⟩
    have hes := rows_len hin
    rw [hlen] at hes
    generalize SetTable.insertAt es p (thash P w k, Value.ref x) = es1 at hin hes ⊢
    generalize L.take p ++ (x, k) :: L.drop p = L1 at pm hlen q3 nd1 hin
    refine wpAny_bind (wpAny_storeSet_of ho hd ?_ (by rw [hes, sizeLine_eq]; omega))
    have sb : Heap.SameBut a s.heap (s.heap.update a (Obj.putSet es1 t1)) := Heap.SameBut.update ..
    have ho1 := store_at (es' := es1) (t' := t1) ho hd
    generalize s.heap.update a (Obj.putSet es1 t1) = h1 at sb ho1 ⊢
    have tup1 : ∀ p ∈ L1, IsT P w h1 p.2 p.1 := fun p hp => by
      rcases List.mem_cons.mp (pm.mem_iff.mp hp) with e | hp
      · rw [e]; exact isT_same hx ho hd sb
      · exact isT_same (R.tup p hp) ho hd sb
    have ld1 : w.params.followText "set-order" = true ∨ t1.led = true := by rw [q5]; exact R.led
    rw [List.length_map] at q9
    by_cases hf : t1.tooFull = true
    · first
        | (refine wpAny_bind ?_; refine wp_if_pos (by simp [hf]) ?_)
        | (refine wp_if_pos (by simp [hf]) ?_; refine wpAny_bind ?_)
      have hfull : (L.length + 1) * 5 ≥ t.mask * 3 := by
        have h := hf
        unfold SetTable.tooFull at h
        rw [decide_eq_true_eq, q9, q4] at h
        exact h
      rw [hsl]
      obtain ⟨M, m1, m2, m3, m4⟩ := next_mask R.tab.mok hroom hfull hfew
      have hmk : 7 ≤ t.mask := by rcases R.tab.mok with e | e | e | e | e | e <;> omega
      refine lay (s := { s with heap := h1 }) ho1 ⟨hex.1, hex.2.1, hex.2.2⟩ rfl hin q3 (by rw [hlen, q4]; omega) nd1 tup1 hp1 ld1 m1 m2 m3 (by rw [hlen]; exact m4) ?_
      intro h2 L2 es2 ep2 t2 sb2 R2 pm2
      exact wpAny_pure (hQ true h2 L2 es2 ep2 t2 (sb.trans sb2) R2 (fun z => absurd z hm) fun _ => pm2.trans pm)
    · first
        | refine wp_if_neg (by simp [hf]) ?_
        | (refine wpAny_bind ?_; refine wp_if_neg (by simp [hf]) ?_; refine wpAny_pure ?_)
      refine wpAny_pure (hQ true h1 L1 es1 (ep + 1) t1 sb ⟨⟨_, ho1, ⟨hex.1, hex.2.1, hex.2.2⟩, rfl⟩, hin, q3, nd1, tup1, hp1, ld1, ?_⟩ (fun z => absurd z hm) fun _ => pm)
      have h := hf
      unfold SetTable.tooFull at h
      rw [decide_eq_true_eq, q9] at h
      rw [hlen]
      omega
end
end BS
end
section
set_option Elab.async false
set_option linter.all false
set_option maxRecDepth 100000
set_option maxHeartbeats 4000000
namespace BS
open PySem PySem.Spec L2 PyProof.Rows
section
variable {P : Program} {w : World} {A : Around} {E : Value → Shared → Prop} {s : Shared}
theorem SetB.keep {h h' : Heap} {a : Addr} {L : List (Addr × List Int)} {es : Array (Int × Value)} {ep : Nat} {t : SetTable} (R : SetB P w h a L es ep t) (ha : ∀ o, h.get? a = some o → h'.get? a = some o) (ht : ∀ p ∈ L, IsT P w h' p.2 p.1) : SetB P w h' a L es ep t := by
  obtain ⟨o, ho, r⟩ := R.ob
  exact { R with ob := ⟨o, ha o ho, r⟩, tup := ht }
theorem fresh {h : Heap} {a : Addr} (ho : h.get? a = some { cls := .type "set", dict := none, data := .set #[] 0 (.fresh 0 0 (!w.params.followText "set-order")) }) : SetB P w h a [] #[] 0 (.fresh 0 0 (!w.params.followText "set-order")) where
  ob := ⟨_, ho, ⟨rfl, rfl, rfl⟩, rfl⟩
  rows := rfl
  tab := ⟨List.Pairwise.nil, rfl, rfl, .inl rfl, (fun x hx => nomatch hx), fun i h j hi => (by simp at hi)⟩
  nd := List.nodup_nil
  tup := fun p hp => nomatch hp
  plain := rfl
  led := by
    show _ ∨ (!w.params.followText "set-order") = true
    cases w.params.followText "set-order"
    · exact .inr rfl
    · exact .inl rfl
  room := show 0 * 5 < 7 * 3 by decide
theorem update {I : Addr} {fp wr : List Addr} {G : Array GenState → Array GenState → Prop} {n : Nat} {Pv : Nat → Value → Prop} {St : Nat → Shared → Prop} {R : Result → Shared → Prop}
    (W : WalksS P w A.in1 I fp wr G n Pv St) (S : Addr) (hSf : S ∉ fp) (ks : List (Addr × List Int)) (hn : n = ks.length) (hfew : ks.length < 4000) (hval : ∀ i v, Pv i v → ∃ p, ks[i]? = some p ∧ v = .ref p.1)
    (h0 : Heap) (hk : ∀ p ∈ ks, IsT P w h0 p.2 p.1) (hS0 : h0.get? S = none) (hw0 : ∀ b ∈ wr, h0.get? b = none) (hu : A.in1.units < cLine) :
    ∀ (k i : Nat) (s : Shared), n - i = k → i ≤ n → St i s → (∀ b o, h0.get? b = some o → s.heap.get? b = some o) → (∃ L es ep t, SetB P w s.heap S L es ep t ∧ Got ks i L) →
      (∀ s' L es ep t, Moved (S :: wr) G s s' → SetB P w s'.heap S L es ep t → Got ks n L → (∀ b o, h0.get? b = some o → s'.heap.get? b = some o) → R (.ok (.ret .none)) s') →
      codeAny (model P w) A (.builtin "set.update.loop" ⟨[.ref S, .ref I], []⟩) R s := by
  have hSw : S ∉ wr := fun h => hSf (W.sub _ h)
  have hsub : ∀ b ∈ wr, b ∈ S :: wr := fun b hb => List.mem_cons_of_mem _ hb
  have keepM : ∀ {s s' : Shared}, Moved wr G s s' → (∀ b o, h0.get? b = some o → s.heap.get? b = some o) → ∀ b o, h0.get? b = some o → s'.heap.get? b = some o := fun hm hkp b o e =>
    hm.heap b o (fun hb => by rw [hw0 b hb] at e; cases e) (hkp b o e)
  intro k
  induction k with
  | zero =>
    intro i s hk' hi hst hkp ⟨L, es, ep, t, hS, g⟩ hR
    have hin : i = n := by omega
    subst hin
    refine codeAny_builtin F.entry_set_update_loop ?_
    rw [Around.under_plainId F.plain_set_update_loop _]
    show wpAny _ A.in1 (pyNext (.ref I) >>= _) _ _ s
    refine wpAny_bind (W.done s _ _ hst fun s' hm => ?_)
    show wpAny _ A.in1 (ret Value.none) _ _ s'
    have hkp' := keepM hm hkp
    exact wpAny_pure (hR s' L es ep t (hm.mono hsub) (hS.keep (fun o e => hm.heap S o hSw e) fun p hp => isT_keep (hk p (List.mem_of_mem_take (g.sub p hp))) hkp') g hkp')
  | succ k ih =>
    intro i s hk' hi hst hkp ⟨L, es, ep, t, hS, g⟩ hR
    have hlt : i < n := by omega
    refine codeAny_builtin F.entry_set_update_loop ?_
    rw [Around.under_plainId F.plain_set_update_loop _]
    show wpAny _ A.in1 (pyNext (.ref I) >>= _) _ _ s
    refine wpAny_bind (W.item i s _ _ hlt hst fun v s' hP hst' hm => ?_)
    obtain ⟨p, hp, rfl⟩ := hval i v hP
    have hkp' := keepM hm hkp
    have hS' : SetB P w s'.heap S L es ep t := hS.keep (fun o e => hm.heap S o hSw e) fun q hq => isT_keep (hk q (List.mem_of_mem_take (g.sub q hq))) hkp'
    have hx : IsT P w s'.heap p.2 p.1 := isT_keep (hk p (List.mem_of_getElem? hp)) hkp'
    show wpAny _ A.in1 (holding [Value.ref p.1] (setAdd S (.ref p.1)) >>= _) _ _ s'
    refine wpAny_bind (wpAny_holding ?_)
    unfold setAdd
    refine wpAny_holding ?_
    refine wpAny_bind (wpAny_pyHash_tuple hu hx ?_)
    refine add (s := { s' with toks := s'.toks + (p.2.length + 1) }) hS' hx hu (by have := g.len; omega) fun b h' L' es' ep' t' hsb hS2 c1 c2 => ?_
    have g' : Got ks (i + 1) L' := by
      rcases Classical.em (p.2 ∈ L.map (·.2)) with c | c
      · rw [c1 c]; exact g.same hp c
      · exact g.more hp (c2 c)
    have hkp2 : ∀ b o, h0.get? b = some o → h'.get? b = some o := fun b o e => (hsb.2 b (fun z => by rw [z, hS0] at e; cases e)).trans (hkp' b o e)
    refine wpAny_pure ⟨plainId_quiet F.plain_set_update_loop _, ih (i + 1) _ (by omega) hlt (W.frame _ s' _ _ hst' (Nat.le_add_right _ _) fun b hb o e => ?_) hkp2 ⟨L', es', ep', t', hS2, g'⟩ fun s'' L2 es2 ep2 t2 hm'' hS'' g'' hkp'' => ?_⟩
    · rw [hsb.2 b (fun h : b = S => hSf (by rw [← h]; exact hb))]; exact e
    · refine hR s'' L2 es2 ep2 t2 (Moved.trans W.gtrans ((hm.mono hsub).then_heap (Nat.le_add_right _ _) fun b o hb e => ?_) hm'') hS'' g'' hkp''
      rw [hsb.2 b (fun h : b = S => hb (by rw [h]; exact List.mem_cons_self))]; exact e
end
end BS
end
section
set_option Elab.async false
set_option linter.all false
set_option maxRecDepth 100000
set_option maxHeartbeats 4000000
namespace BS
open PySem PySem.Spec L2 PyProof.Rows
section
variable {P : Program} {w : World} {A : Around} {E : Value → Shared → Prop} {s : Shared}
/-- set(t), t a tuple of tuples of ints -/
theorem call_set_tuple {l : Addr} {items : Array Value} (ks : List (Addr × List Int)) {Q : Value → Shared → Prop} (hh : A.handled = none) (hl : s.heap.IsTuple l items) (hit : items.toList = ks.map fun p => Value.ref p.1)
    (hk : ∀ p ∈ ks, IsT P w s.heap p.2 p.1) (hfew : ks.length < 4000) (hu : A.units + 3 < cLine)
    (h : ∀ (h' : Heap) (tk : Nat) L es ep t, SetB P w h' s.heap.objs.size L es ep t → Got ks ks.length L → (∀ b o, s.heap.get? b = some o → h'.get? b = some o) → Q (.ref s.heap.objs.size) { s with heap := h', toks := tk }) :
    wpAny (model P w) A (call (.type "set") [.ref l]) Q E s := by
  have hn : items.size = ks.length := by simpa using congrArg List.length hit
  generalize hob : ({ cls := .type "set", dict := none, data := .set #[] 0 (.fresh 0 0 (!w.params.followText "set-order")) } : Obj) = ob
  obtain ⟨c, tl, hmro⟩ := F.called_set.mro
  have f1 := F.called_set.made
  have f2 := F.called_set.sub
  have f3 := F.called_set.notType
  have f4 := F.called_set.canCreate
  have f5 := F.typeCall_set_1 (.ref l)
  have f6 := F.called_set.init.lookup
  have f7 := F.called_set.init.bind (.ref s.heap.objs.size)
  have hat : (s.heap.push ob).get? s.heap.objs.size = some ob := Heap.get?_push_size _ (by rw [← hob]; rfl)
  refine wpAny_call (codeAny_of_tree ?_)
  show wpAny _ _ (callAny (.type "set") _) _ _ _
  refine wpAny_pure ⟨Code.quiet_builtin _ (by decide +kernel), codeAny_builtin F.entry_type_call ?_⟩
  rw [Around.under_plain (weight_type_call_type "set" [.ref l] []) rfl]
  repeat (any_goals (first | assumption | wp_step))
  refine codeAny_mono (code_set_led1 (.ref l) (E := E) (Q₁ := fun obj s₁ => obj = .ref s.heap.objs.size ∧ s₁ = { s with heap := s.heap.push ob }) ⟨rfl, by rw [← hob]⟩) fun r s₁ hr => ?_
  match r, hr with
  | .error _, hr => exact hr
  | .ok (.ret obj), hr =>
    obtain ⟨rfl, rfl⟩ := hr
    have hT : Shared.TypeIs { s with heap := s.heap.push ob } (.ref s.heap.objs.size) "set" := ⟨_, hat, by rw [← hob]⟩
    repeat (any_goals (first | assumption | wp_step))
    refine codeAny_mono (codeAny_call_builtin (R := wants (fun r s₂ => r = .none ∧ ∃ h' tk L es ep t, s₂ = { s with heap := h', toks := tk } ∧ SetB P w h' s.heap.objs.size L es ep t ∧ Got ks ks.length L ∧
        (∀ b o, s.heap.get? b = some o → h'.get? b = some o)) E) F.called_set.init.plain F.entry_set_init (check_set_init_1 hT ?_)) fun r₂ s₂ hr₂ => ?_
    · subst hob
      obtain ⟨⟨oc, od, oda, osl⟩, g1, g2, n, g3⟩ := hl
      cases g2
      cases g3
      have g4 := F.sub_tuple_set
      have g5 := F.sub_tuple_frozenset
      have g6 : (Value.type "tuple" == Value.type "dict") = false := by decide
      have g7 : (s.heap.push { cls := .type "set", dict := none, data := .set #[] 0 (.fresh 0 0 (!w.params.followText "set-order")) }).get? l = some { cls := .type "tuple", dict := od, data := .seq items n, slots := osl } := Heap.get?_push_of_some _ g1
      have g8 : (s.heap.push { cls := .type "set", dict := none, data := .set #[] 0 (.fresh 0 0 (!w.params.followText "set-order")) }).IsTuple l items := ⟨_, g7, rfl, n, rfl⟩
      have hlt : l < s.heap.objs.size := Heap.lt_size g1
      have hsz : (s.heap.push { cls := .type "set", dict := none, data := .set #[] 0 (.fresh 0 0 (!w.params.followText "set-order")) }).objs.size = s.heap.objs.size + 1 := Heap.size_push ..
      have gone : ∀ b, s.heap.objs.size ≤ b → s.heap.get? b = none := fun b hb => by
        cases q : s.heap.get? b with
        | none => rfl
        | some o => exact absurd (Heap.lt_size q) (Nat.not_lt.mpr hb)
      unfold Builtin.«set.__init__» noKeywords Builtin.Frozenset.updateFrom
      generalize hPI : pyIter = PI
      wp_walk
      subst hPI
      refine wpAny_pyIter_tuple g8 ?_
      refine wpAny_bind (wpAny_runValue ?_)
      have k1 : A.in1.in1.in1.handled = none := by simp [hh]
      have k2 : l ≠ (s.heap.push { cls := .type "set", dict := none, data := .set #[] 0 (.fresh 0 0 (!w.params.followText "set-order")) }).objs.size := by rw [hsz]; exact Nat.ne_of_lt (Nat.lt_succ_of_lt hlt)
      have k3 : s.heap.objs.size ∉ [(s.heap.push { cls := .type "set", dict := none, data := .set #[] 0 (.fresh 0 0 (!w.params.followText "set-order")) }).objs.size, l] := by
        rw [hsz]
        simp only [List.mem_cons, List.not_mem_nil, or_false, not_or]
        exact ⟨Nat.ne_of_lt (Nat.lt_succ_self _), Nat.ne_of_gt hlt⟩
      refine update ((Walks.tuple k1 _ l k2 items).toS) s.heap.objs.size k3 ks hn hfew (fun i v hv => ?_) s.heap hk (gone _ (Nat.le_refl _)) (fun b hb => gone b ?_) hu (items.size - 0) 0 _ (by omega) (Nat.zero_le _)
        ⟨⟨_, Heap.get?_push_size _ rfl, rfl, rfl⟩, g8.push _⟩ (fun b o e => Heap.get?_push_of_some _ (Heap.get?_push_of_some _ e)) ⟨[], #[], 0, _, fresh (Heap.get?_push_of_some _ hat), Got.zero ks⟩ fun s' L es ep t hm hS' g' hkp => ?_
      · have q : items.toList[i]? = some v := by rw [Array.getElem?_toList]; exact hv
        rw [hit, List.getElem?_map] at q
        obtain ⟨p, e1, e2⟩ := Option.map_eq_some_iff.mp q
        exact ⟨p, e1, e2.symm⟩
      · rw [List.mem_singleton.mp hb, hsz]
        exact Nat.le_succ _
      · rw [hn] at g'
        obtain ⟨h', _, _, tk', _⟩ := s'
        cases hm.gens
        cases hm.drawn
        cases hm.os
        show wpAny _ _ _ _ _ _
        refine wpAny_pure ?_
        show wpAny _ _ (ret Value.none) _ _ _
        exact wpAny_pure ⟨rfl, h', tk', L, es, ep, t, rfl, hS', g', hkp⟩
    · match r₂, hr₂ with
      | .error _, hr₂ => exact hr₂
      | .ok (.ret _), hr₂ =>
        obtain ⟨rfl, h', tk, L, es, ep, t, rfl, hS', g', hk'⟩ := hr₂
        repeat (any_goals (first | assumption | wp_step))
        exact h _ _ _ _ _ _ hS' g' hk'
/-- set(t), t a list of tuples of ints -/
theorem call_set_list {l : Addr} {items : Array Value} (ks : List (Addr × List Int)) {Q : Value → Shared → Prop} (hh : A.handled = none) (hl : s.heap.IsList l items) (hit : items.toList = ks.map fun p => Value.ref p.1)
    (hk : ∀ p ∈ ks, IsT P w s.heap p.2 p.1) (hfew : ks.length < 4000) (hu : A.units + 3 < cLine)
    (h : ∀ (h' : Heap) (tk : Nat) L es ep t, SetB P w h' s.heap.objs.size L es ep t → Got ks ks.length L → (∀ b o, s.heap.get? b = some o → h'.get? b = some o) → Q (.ref s.heap.objs.size) { s with heap := h', toks := tk }) :
    wpAny (model P w) A (call (.type "set") [.ref l]) Q E s := by
  have hn : items.size = ks.length := by simpa using congrArg List.length hit
  generalize hob : ({ cls := .type "set", dict := none, data := .set #[] 0 (.fresh 0 0 (!w.params.followText "set-order")) } : Obj) = ob
  obtain ⟨c, tl, hmro⟩ := F.called_set.mro
  have f1 := F.called_set.made
  have f2 := F.called_set.sub
  have f3 := F.called_set.notType
  have f4 := F.called_set.canCreate
  have f5 := F.typeCall_set_1 (.ref l)
  have f6 := F.called_set.init.lookup
  have f7 := F.called_set.init.bind (.ref s.heap.objs.size)
  have hat : (s.heap.push ob).get? s.heap.objs.size = some ob := Heap.get?_push_size _ (by rw [← hob]; rfl)
  refine wpAny_call (codeAny_of_tree ?_)
  show wpAny _ _ (callAny (.type "set") _) _ _ _
  refine wpAny_pure ⟨Code.quiet_builtin _ (by decide +kernel), codeAny_builtin F.entry_type_call ?_⟩
  rw [Around.under_plain (weight_type_call_type "set" [.ref l] []) rfl]
  repeat (any_goals (first | assumption | wp_step))
  refine codeAny_mono (code_set_led1 (.ref l) (E := E) (Q₁ := fun obj s₁ => obj = .ref s.heap.objs.size ∧ s₁ = { s with heap := s.heap.push ob }) ⟨rfl, by rw [← hob]⟩) fun r s₁ hr => ?_
  match r, hr with
  | .error _, hr => exact hr
  | .ok (.ret obj), hr =>
    obtain ⟨rfl, rfl⟩ := hr
    have hT : Shared.TypeIs { s with heap := s.heap.push ob } (.ref s.heap.objs.size) "set" := ⟨_, hat, by rw [← hob]⟩
    repeat (any_goals (first | assumption | wp_step))
    refine codeAny_mono (codeAny_call_builtin (R := wants (fun r s₂ => r = .none ∧ ∃ h' tk L es ep t, s₂ = { s with heap := h', toks := tk } ∧ SetB P w h' s.heap.objs.size L es ep t ∧ Got ks ks.length L ∧
        (∀ b o, s.heap.get? b = some o → h'.get? b = some o)) E) F.called_set.init.plain F.entry_set_init (check_set_init_1 hT ?_)) fun r₂ s₂ hr₂ => ?_
    · subst hob
      obtain ⟨⟨oc, od, oda, osl⟩, g1, g2, n, g3⟩ := hl
      cases g2
      cases g3
      have g4 := F.sub_list_set
      have g5 := F.sub_list_frozenset
      have g6 : (Value.type "list" == Value.type "dict") = false := by decide
      have g7 : (s.heap.push { cls := .type "set", dict := none, data := .set #[] 0 (.fresh 0 0 (!w.params.followText "set-order")) }).get? l = some { cls := .type "list", dict := od, data := .seq items n, slots := osl } := Heap.get?_push_of_some _ g1
      have g8 : (s.heap.push { cls := .type "set", dict := none, data := .set #[] 0 (.fresh 0 0 (!w.params.followText "set-order")) }).IsList l items := ⟨_, g7, rfl, n, rfl⟩
      have hlt : l < s.heap.objs.size := Heap.lt_size g1
      have hsz : (s.heap.push { cls := .type "set", dict := none, data := .set #[] 0 (.fresh 0 0 (!w.params.followText "set-order")) }).objs.size = s.heap.objs.size + 1 := Heap.size_push ..
      have gone : ∀ b, s.heap.objs.size ≤ b → s.heap.get? b = none := fun b hb => by
        cases q : s.heap.get? b with
        | none => rfl
        | some o => exact absurd (Heap.lt_size q) (Nat.not_lt.mpr hb)
      unfold Builtin.«set.__init__» noKeywords Builtin.Frozenset.updateFrom
      generalize hPI : pyIter = PI
      wp_walk
      subst hPI
      refine wpAny_pyIter_list g8 ?_
      refine wpAny_bind (wpAny_runValue ?_)
      have k1 : A.in1.in1.in1.handled = none := by simp [hh]
      have k2 : l ≠ (s.heap.push { cls := .type "set", dict := none, data := .set #[] 0 (.fresh 0 0 (!w.params.followText "set-order")) }).objs.size := by rw [hsz]; exact Nat.ne_of_lt (Nat.lt_succ_of_lt hlt)
      have k3 : s.heap.objs.size ∉ [(s.heap.push { cls := .type "set", dict := none, data := .set #[] 0 (.fresh 0 0 (!w.params.followText "set-order")) }).objs.size, l] := by
        rw [hsz]
        simp only [List.mem_cons, List.not_mem_nil, or_false, not_or]
        exact ⟨Nat.ne_of_lt (Nat.lt_succ_self _), Nat.ne_of_gt hlt⟩
      refine update ((Walks.list k1 _ l k2 items).toS) s.heap.objs.size k3 ks hn hfew (fun i v hv => ?_) s.heap hk (gone _ (Nat.le_refl _)) (fun b hb => gone b ?_) hu (items.size - 0) 0 _ (by omega) (Nat.zero_le _)
        ⟨⟨_, Heap.get?_push_size _ rfl, rfl, rfl⟩, g8.push _⟩ (fun b o e => Heap.get?_push_of_some _ (Heap.get?_push_of_some _ e)) ⟨[], #[], 0, _, fresh (Heap.get?_push_of_some _ hat), Got.zero ks⟩ fun s' L es ep t hm hS' g' hkp => ?_
      · have q : items.toList[i]? = some v := by rw [Array.getElem?_toList]; exact hv
        rw [hit, List.getElem?_map] at q
        obtain ⟨p, e1, e2⟩ := Option.map_eq_some_iff.mp q
        exact ⟨p, e1, e2.symm⟩
      · rw [List.mem_singleton.mp hb, hsz]
        exact Nat.le_succ _
      · rw [hn] at g'
        obtain ⟨h', _, _, tk', _⟩ := s'
        cases hm.gens
        cases hm.drawn
        cases hm.os
        show wpAny _ _ _ _ _ _
        refine wpAny_pure ?_
        show wpAny _ _ (ret Value.none) _ _ _
        exact wpAny_pure ⟨rfl, h', tk', L, es, ep, t, rfl, hS', g', hkp⟩
    · match r₂, hr₂ with
      | .error _, hr₂ => exact hr₂
      | .ok (.ret _), hr₂ =>
        obtain ⟨rfl, h', tk, L, es, ep, t, rfl, hS', g', hk'⟩ := hr₂
        repeat (any_goals (first | assumption | wp_step))
        exact h _ _ _ _ _ _ hS' g' hk'
end
end BS
end
section
set_option Elab.async false
set_option linter.all false
set_option maxRecDepth 100000
set_option maxHeartbeats 4000000
namespace BS
open PySem PySem.W PySem.Calls PyProof.Rows PySem.SeqAt
section
variable {prog : Program} {w : World} {A : Around} {E : Value → Shared → Prop} {s : Shared}
theorem call_tuple_lt {Q : Value → Shared → Prop} {l b : Addr} {items items2 : Array Value} {e r : Nat → Bool} (hl : s.heap.IsTuple l items) (hb : s.heap.IsTuple b items2)
    (he : ∀ j (h1 : j < items.size) (h2 : j < items2.size), EqAt A.in1 s items[j] items2[j] (e j)) (hr : ∀ j (h1 : j < items.size) (h2 : j < items2.size), e j = false → RcLt A.in1 s items[j] items2[j] (r j))
    (h : Q (.bool (firstLt e r (decide (items.size < items2.size)) (List.range (min items.size items2.size)))) s) : wpAny (model prog w) A (call (.builtin "tuple.__lt__") [.ref l, .ref b]) Q E s := by
  obtain ⟨⟨cls, dd, data, sl⟩, ho, hc, n, hd⟩ := id hl
  obtain ⟨⟨cls2, dd2, data2, sl2⟩, ho2, hc2, n2, hd2⟩ := id hb
  simp only at hc hd hc2 hd2
  subst hc hd hc2 hd2
  exact call_meets F.slot_tuple_lt ⟨_, ho, rfl⟩ F.entry_tuple_lt (F.args_tuple_lt_2 _ _) (tuple_ltAt l b items items2 n n2 dd dd2 sl sl2 e r) ⟨ho, ho2, he, hr, h⟩
theorem oneLt_tuples {xs ys : List PyData} {a b : Value} {as bs : List Addr} {Q : Bool → Shared → Prop} (ra : Reads s.heap a (.tuple xs) as) (rb : Reads s.heap b (.tuple ys) bs) (h : alike (.tuple xs) (.tuple ys) = true)
    (hu : A.units + min (PyData.tuple xs).depth (PyData.tuple ys).depth < cLine) (hq : Q (dataLt (.tuple xs) (.tuple ys)) s) : wpAny (model prog w) A (oneLt' true a b) Q E s := by
  have hal : alikeAll xs ys = true := by simpa [alike] using h
  cases ra with
  | @tuple l o vs n _ as₁ h1 h2 h3 h4 =>
    cases rb with
    | @tuple l' o' vs' n' _ bs₁ k1 k2 k3 k4 =>
      have n1 : vs.size = xs.length := by simpa using ReadsAll.length _ _ _ h4
      have n2 : vs'.size = ys.length := by simpa using ReadsAll.length _ _ _ k4
      rw [dataLt_tuple, ← firstLt_toks xs ys hal, ← n1, ← n2] at hq
      rw [oneLt'_eq]
      simp only [if_true]
      refine wpAny_bind (wpAny_cRoomFor (room_here hu) ?_)
      refine wpAny_bind (wpAny_callSpecialIfBound?_slot (T := "tuple") ⟨_, h1, h2⟩ F.slot_tuple_lt (call_tuple_lt (e := pairEq xs ys) (r := fun j => dataLt (xs.getD j .none) (ys.getD j .none)) ⟨_, h1, h2, _, h3⟩ ⟨_, k1, k2, _, k3⟩ (fun j j1 j2 => ?_) (fun j j1 j2 hj => ?_) ?_))
      · have := eqAt_alikeAll xs ys A.in1 s vs.toList vs'.toList _ _ h4 k4 hal (room_in hu) j (by simpa using j1) (by simpa using j2)
        simpa using this
      · have := rcLt_alikeAll xs ys A.in1 s vs.toList vs'.toList _ _ h4 k4 hal (room_in hu) j (by simpa using j1) (by simpa using j2) hj
        simpa using this
      · exact wpAny_truthy_bool hq
def fullT : PyData → Bool
  | .tuple [] => false
  | _ => true
theorem fullT_of {xs : List PyData} (h : PyData.tuple xs ≠ .tuple []) : fullT (.tuple xs) = true := by
  cases xs with
  | nil => exact absurd rfl h
  | cons x r => rfl
/-- the first item of each of some tuples, if it has one -/
theorem firsts_tups : ∀ (vs : List Value) (ds : List PyData) {Q : List (Option Value) → Shared → Prop}, EachIs (fun v d => ∃ as, Reads s.heap v d as) vs ds → (∀ d ∈ ds, ∃ xs, d = .tuple xs) → (∀ fs : List (Option Value), EachIs (fun f d => f.isSome = fullT d) fs ds → Q fs s) → wpAny (model prog w) A (vs.mapM firstOfTuple') Q E s
  | [], _, _, .nil, _, h => by rw [List.mapM_nil]; exact wpAny_pure (h [] .nil)
  | v :: vs, d :: ds, Q, .cons ⟨as, r⟩ t, ht, h => by
    obtain ⟨xs, rfl⟩ := ht d List.mem_cons_self
    rw [List.mapM_cons]
    refine wpAny_bind ?_
    rw [kas_first_eq]
    refine wpAny_bind ((looks_reads r).here ?_)
    rw [if_neg (by first | decide | simp [dataType])]
    cases r with
    | @tuple a o ys n _ _ h1 h2 h3 h4 =>
      refine wpAny_bind (listItems_at h1 h3 (wpAny_pure ?_))
      refine wpAny_bind (firsts_tups vs ds t (fun d hd => ht d (List.mem_cons_of_mem _ hd)) fun fs hfs => wpAny_pure (h _ (.cons ?_ hfs)))
      have n1 : ys.size = xs.length := by simpa using ReadsAll.length _ _ _ h4
      cases xs with
      | nil =>
        have : ys[0]? = none := by simp at n1; simp [n1]
        rw [this]
        rfl
      | cons x r =>
        have : 0 < ys.size := by rw [n1]; simp
        rw [Array.getElem?_eq_getElem this]
        rfl
theorem each_at {α β : Type} {R : α → β → Prop} : ∀ {as : List α} {bs : List β}, EachIs R as bs → ∀ b ∈ bs, ∃ a ∈ as, R a b
  | _, _, .nil, b, h => nomatch h
  | _, _, .cons h t, b, hb => by
    rcases List.mem_cons.mp hb with rfl | hb
    · exact ⟨_, List.mem_cons_self, h⟩
    · obtain ⟨a, ha, r⟩ := each_at t b hb
      exact ⟨a, List.mem_cons_of_mem _ ha, r⟩
theorem sortsAt_tuples {vs : List Value} {ds : List PyData} (e : EachIs (fun v d => ∃ as, Reads s.heap v d as) vs ds) (hal : AllAlike ds) (ht : ∀ d ∈ ds, ∃ xs, d = .tuple xs) (hu : ∀ d, d ∈ ds → A.units + d.depth < cLine) : SortsAt prog w A s (dataKind s.heap ds) vs := by
  have room : ∀ {d d' : PyData}, d ∈ ds → A.units + min d.depth d'.depth < cLine := fun {d d'} hd => Nat.lt_of_le_of_lt (Nat.add_le_add_left (Nat.min_le_left _ _) _) (hu d hd)
  by_cases hne : ∀ d ∈ ds, ∃ x r, d = .tuple (x :: r)
  · exact SortsAt.data e hal (.inl hne) hu
  have gen : H.LtAt prog w A s (dataKind s.heap ds) general' := by
    intro E x y a b Q ha hb hq
    obtain ⟨d, as, hd, ra, rfl⟩ := dataKind_inv ha
    obtain ⟨d', as', hd', rb, rfl⟩ := dataKind_inv hb
    obtain ⟨xs, rfl⟩ := ht d hd
    exact oneLt_alike (f := false) (fun h => nomatch h) ra rb (hal _ hd d' hd') (fun h => nomatch h) (room hd) hq
  have one : H.LtAt prog w A s (dataKind s.heap ds) oneType' := by
    intro E x y a b Q ha hb hq
    obtain ⟨d, as, hd, ra, rfl⟩ := dataKind_inv ha
    obtain ⟨d', as', hd', rb, rfl⟩ := dataKind_inv hb
    obtain ⟨xs, rfl⟩ := ht d hd
    obtain ⟨ys, rfl⟩ := ht d' hd'
    rw [keyLt'_oneType]
    exact oneLt_tuples ra rb (hal _ hd _ hd') (room hd) hq
  refine ⟨fun v hv => ?_, ?_⟩
  · obtain ⟨d, hd, as, r⟩ := e.left v hv
    exact ⟨_, dataKind_some hal hd r⟩
  · obtain ⟨d1, hd1, hd2⟩ : ∃ d ∈ ds, d = .tuple [] := by
      refine Classical.byContradiction fun hno => hne fun d hd => ?_
      obtain ⟨xs, rfl⟩ := ht d hd
      cases xs with
      | nil => exact absurd ⟨_, hd, rfl⟩ hno
      | cons x r => exact ⟨x, r, rfl⟩
    cases ds with
    | nil => cases hd1
    | cons d₀ ds₀ =>
      cases vs with
      | nil => cases e
      | cons v₀ vs₀ =>
        have notall : ∀ fs : List (Option Value), EachIs (fun f d => f.isSome = fullT d) fs (d₀ :: ds₀) → (fs.toArray.all fun x => x.isSome) = false := by
          intro fs hfs
          obtain ⟨f, hf, hfd⟩ := each_at hfs d1 hd1
          rw [hd2] at hfd
          simp only [List.all_toArray]
          rw [List.all_eq_false]
          exact ⟨f, hf, by rw [hfd]; simp [fullT]⟩
        by_cases h0 : d₀ = .tuple []
        · refine ⟨oneType', one, fun h2 E Q hq => ?_⟩
          rw [keyKind'_eq, List.mapM_toArray, map_eq_pure_bind]
          refine wpAny_bind (wpAny_bind (firsts_tups _ _ e ht fun fs hfs => wpAny_pure ?_))
          rw [if_neg (by rw [notall fs hfs]; simp)]
          cases hfs with
          | @cons f d fs' ds' hf hr =>
            rw [h0] at hf
            have hf' : f = none := by
              cases f with
              | none => rfl
              | some x => simp [fullT] at hf
            subst hf'
            rw [if_neg (by simp)]
            rw [oneTypeOnly'_eq, List.mapM_toArray, map_eq_pure_bind]
            refine wpAny_bind (wpAny_bind (wpAny_bind (kas_mapM (r := Value.type "tuple") _ (fun v hv Q' hq => ?_) (wpAny_pure ?_))))
            · obtain ⟨d, hd, as, r⟩ := e.left v hv
              obtain ⟨xs, rfl⟩ := ht d hd
              exact (looks_reads r).here hq
            · have hall : ((List.map (fun _ => Value.type "tuple") (v₀ :: vs₀)).toArray.all fun x => x == Value.type "tuple") = true := by
                simp only [List.all_toArray, List.all_map, List.all_eq_true]
                intro _ _
                exact beq_self_eq_true _
              have h0 : (List.map (fun _ => Value.type "tuple") (v₀ :: vs₀)).toArray[0]? = some (Value.type "tuple") := by simp
              rw [h0]
              simp only [hall, if_true]
              exact wpAny_pure (wpAny_pure hq)
        · refine ⟨general', gen, fun h2 E Q hq => ?_⟩
          rw [keyKind'_eq, List.mapM_toArray, map_eq_pure_bind]
          refine wpAny_bind (wpAny_bind (firsts_tups _ _ e ht fun fs hfs => wpAny_pure ?_))
          rw [if_neg (by rw [notall fs hfs]; simp)]
          cases hfs with
          | @cons f d fs' ds' hf hr =>
            obtain ⟨zs, rfl⟩ := ht d₀ List.mem_cons_self
            rw [fullT_of h0] at hf
            obtain ⟨x, rfl⟩ := Option.isSome_iff_exists.mp hf
            rw [if_pos (by simp)]
            exact wpAny_pure hq
def SortX (ds : List PyData) : Prop := Sortable ds ∨ ∀ d ∈ ds, ∃ xs, d = .tuple xs
theorem sortsAt_X {vs : List Value} {ds : List PyData} (e : EachIs (fun v d => ∃ as, Reads s.heap v d as) vs ds) (hal : AllAlike ds) (hk : SortX ds) (hu : ∀ d, d ∈ ds → A.units + d.depth < cLine) : SortsAt prog w A s (dataKind s.heap ds) vs := by
  rcases hk with hk | hk
  · exact SortsAt.data e hal hk hu
  · exact sortsAt_tuples e hal hk hu
variable {β : Type} {vs : List Value} {bs : List β} {enc : β → PyData} {R : Value → β → Prop}
theorem sorted_X {l : Addr} {Q : Value → Shared → Prop} (hl : s.heap.IsList l vs.toArray) (e : EachIs R vs bs) (er : EachIs (fun v b => ∃ as, Reads s.heap v (enc b) as) vs bs) (hal : AllAlike (bs.map enc)) (hk : SortX (bs.map enc)) (hL : bs.length ≤ sizeLine)
    (hu : ∀ b, b ∈ bs → A.units + 2 + (enc b).depth < cLine) (h : ∀ out, out.length = bs.length → EachIs R out (bs.mergeSort (dataLe false enc)) → Q (.ref (s.heap.objs.size + 1)) { s with heap := sortedAll s.heap vs (List.toArray out) }) :
    wpAny (model prog w) A (call (.builtin "sorted") [.ref l]) Q E s := by
  have er' : EachIs (fun v b => ∃ as, Reads (sortingHeap (copyHeap s.heap vs) (s.heap.objs.size + 1) vs) v (enc b) as) vs bs := er.mono fun _ _ ⟨as, r⟩ => ⟨as, PyProof.Rows.Reads.keeps (fun _ _ => sorting_copy_old) r⟩
  exact sorted_vals hl (sortsAt_X (s := { s with heap := sortingHeap (copyHeap s.heap vs) (s.heap.objs.size + 1) vs }) (each_map (R := fun v d => ∃ as, Reads (sortingHeap (copyHeap s.heap vs) (s.heap.objs.size + 1) vs) v d as) enc er') hal hk (bound_map hu)) (by rw [e.length]; exact hL)
    (h _ (by rw [sortVals_length false rfl]; exact e.length) (sortVals_data false e er' hal))
theorem list_sort_X {a : Addr} {n : Nat} {Q : Value → Shared → Prop} (ho : s.heap.get? a = some (seqObj "list" vs.toArray n)) (e : EachIs R vs bs) (er : EachIs (fun v b => ∃ as, Reads s.heap v (enc b) as ∧ a ∉ as) vs bs) (hal : AllAlike (bs.map enc)) (hk : SortX (bs.map enc)) (hL : bs.length ≤ sizeLine)
    (hu : ∀ b, b ∈ bs → A.units + 1 + (enc b).depth < cLine) (h : ∀ out, out.length = bs.length → EachIs R out (bs.mergeSort (dataLe false enc)) → Q .none { s with heap := sortedHeap s.heap a vs (List.toArray out) }) :
    wpAny (model prog w) A (call (.builtin "list.sort") [.ref a]) Q E s := by
  have er' : EachIs (fun v b => ∃ as, Reads (sortingHeap s.heap a vs) v (enc b) as) vs bs := each_keepBut (h' := sortingHeap s.heap a vs) (fun _ _ hb q => sortingHeap_old hb q) (fun o q => by rw [ho] at q; rw [← Option.some.inj q]) hal er
  refine wpAny_call_entry PyProof.Rows.slot_list_sort ⟨_, ho, rfl⟩ PyProof.Rows.entry_list_sort (list_sort_vals (κ := dataKind (sortingHeap s.heap a vs) (bs.map enc)) ho (sortsAt_X (s := { s with heap := sortingHeap s.heap a vs }) (each_map (R := fun v d => ∃ as, Reads (sortingHeap s.heap a vs) v d as) enc er') hal hk (bound_map hu)) (by rw [e.length]; exact hL) ⟨.none, rfl, ?_⟩) (PyProof.Rows.args_list_sort _)
  exact h _ (by rw [sortVals_length false rfl]; exact e.length) (sortVals_data false e er' hal)
end
end BS
end
section
set_option Elab.async false
set_option linter.all false
set_option maxRecDepth 100000
set_option maxHeartbeats 4000000
namespace BS
open PySem PySem.Spec L2 PyProof.Rows DL
theorem lt_lexL : ∀ x y : List Int, decide (x < y) = lexL x y
  | [], [] => by simp [lexL]
  | [], y :: ys => by simp [lexL]
  | x :: xs, [] => by simp [lexL]
  | x :: xs, y :: ys => by
    rw [lexL, ← lt_lexL xs ys]
    by_cases h : x < y <;> by_cases h2 : x = y <;> by_cases h3 : xs < ys <;> simp [List.cons_lt_cons_iff, h, h2, h3]
theorem data_lexL (x y : List Int) : PySem.W.dataLt (.tuple (x.map .int)) (.tuple (y.map .int)) = lexL x y := by
  rw [PySem.W.dataLt_tuple]
  exact (PySem.W.dataLt_ints x y).trans (lt_lexL x y)
theorem alike_ints2 : ∀ x y : List Int, PySem.W.alikeAll (x.map .int) (y.map .int) = true
  | [], _ => by simp [PySem.W.alikeAll]
  | _ :: _, [] => by simp [PySem.W.alikeAll]
  | x :: xs, y :: ys => by simp [PySem.W.alikeAll, PySem.W.alike, alike_ints2 xs ys]
abbrev encT (q : Addr × List Int) : PyData := .tuple (q.2.map .int)
theorem le_lexL (p q : Addr × List Int) : PySem.W.dataLe false encT p q = !lexL q.2 p.2 := by
  show (!PySem.W.dataLt (encT q) (encT p)) = _
  rw [data_lexL]
theorem le_tr (x y z : Addr × List Int) (h1 : PySem.W.dataLe false encT x y = true) (h2 : PySem.W.dataLe false encT y z = true) : PySem.W.dataLe false encT x z = true := by
  rw [le_lexL] at *
  simp only [Bool.not_eq_true'] at *
  rcases lexL_tri z.2 x.2 with h | h | h
  · rcases lexL_tri x.2 y.2 with k | k | k
    · rw [lexL_tr h k] at h2; cases h2
    · rw [← k, h] at h2; cases h2
    · rw [k] at h1; cases h1
  · rw [h]; exact lexL_irr _
  · exact Bool.eq_false_iff.mpr fun e => by have := lexL_tr e h; rw [lexL_irr] at this; cases this
theorem le_tot (x y : Addr × List Int) : (PySem.W.dataLe false encT x y || PySem.W.dataLe false encT y x) = true := by
  rw [le_lexL, le_lexL]
  cases h : lexL y.2 x.2 with
  | false => rfl
  | true =>
    cases k : lexL x.2 y.2 with
    | false => rfl
    | true => have := lexL_tr h k; rw [lexL_irr] at this; cases this
theorem each_of {R : Value → (Addr × List Int) → Prop} : ∀ (l : List (Addr × List Int)), (∀ q ∈ l, R (Value.ref q.1) q) → PySem.W.EachIs R (l.map fun q => Value.ref q.1) l
  | [], _ => .nil
  | q :: l, h => .cons (h q List.mem_cons_self) (each_of l fun r hr => h r (List.mem_cons_of_mem _ hr))
theorem of_each : ∀ {out : List Value} {l : List (Addr × List Int)}, PySem.W.EachIs (fun v q => v = Value.ref q.1) out l → out = l.map fun q => Value.ref q.1
  | _, _, .nil => rfl
  | _, _, .cons h r => by rw [h, of_each r]; rfl
section
variable {P : Program} {w : World} {A : Around} {E : Value → Shared → Prop} {s : Shared}
theorem sorted_B {a : Addr} {L : List (Addr × List Int)} {es : Array (Int × Value)} {ep : Nat} {t : SetTable} {Q : Value → Shared → Prop} (R : SetB P w s.heap a L es ep t) (hh : A.handled = none) (hfew : L.length < 4000) (hu : A.units + 64 < cLine)
    (hQ : ∀ s' p (out : Array Value) (c : Nat) (L' : List (Addr × List Int)), (∀ b o, s.heap.get? b = some o → s'.heap.get? b = some o) → s'.gens = s.gens → s'.os = s.os → s.heap.objs.size ≤ p →
      s'.heap.get? p = some (seqObj "list" out c) → out.toList = L'.map (fun q => Value.ref q.1) → L'.Perm L → L'.Pairwise (fun q r => lexL r.2 q.2 = false) → Q (.ref p) s') :
    wpAny (model P w) A (call (.builtin "sorted") [.ref a]) Q E s := by
  obtain ⟨o, ho, hex, hd⟩ := R.ob
  have hsz := rows_len R.rows
  refine Calls.call_function_entry kind_sorted plain_sorted entry_sorted (args_sorted1 _) ?_
  unfold Builtin.«sorted»
  refine wpAny_bind (m := checkCount "sorted" 1 1 _) (wpAny_pure ?_)
  refine wpAny_bind (collect_set (A := A.in1) hh ⟨o, ho, hex.1, hd⟩ R.fits (by unfold scanBound; omega) R.tab.ris R.led fun s1 vs k1 hz g1 o1 pm => ?_)
  have hes : es.toList.map (·.2) = L.map fun q => Value.ref q.1 := by
    rw [R.rows]
    unfold rowsOf
    rw [List.map_map]
    rfl
  rw [hes] at pm
  have one : ∀ q ∈ L, ∀ r ∈ L, q.1 = r.1 → q = r := fun q hq r hr e => by
    have a1 := R.tup q hq
    have a2 := R.tup r hr
    rw [e] at a1
    exact Prod.ext e (a1.inj a2)
  obtain ⟨L1, rfl, hs⟩ : ∃ L1 : List (Addr × List Int), vs = L1.map (fun q => Value.ref q.1) ∧ ∀ q ∈ L1, q ∈ L := by
    have : ∀ vs : List Value, (∀ v ∈ vs, ∃ q ∈ L, v = Value.ref q.1) → ∃ L1 : List (Addr × List Int), vs = L1.map (fun q => Value.ref q.1) ∧ ∀ q ∈ L1, q ∈ L := by
      intro vs
      induction vs with
      | nil => exact fun _ => ⟨[], rfl, fun q hq => nomatch hq⟩
      | cons v vs ih =>
        intro hv
        obtain ⟨q, hq, rfl⟩ := hv v List.mem_cons_self
        obtain ⟨L1, rfl, hs⟩ := ih fun u hu => hv u (List.mem_cons_of_mem _ hu)
        refine ⟨q :: L1, rfl, fun r hr => ?_⟩
        rcases List.mem_cons.mp hr with rfl | z
        · exact hq
        · exact hs r z
    exact this vs fun v hv => by
      obtain ⟨q, hq, e⟩ := List.mem_map.mp (pm.mem_iff.mp hv)
      exact ⟨q, hq, e.symm⟩
  have p1 : L1.Perm L := by
    have nL : L.Nodup := nodup_of_map R.nd
    have nref : (L.map fun q => Value.ref q.1).Nodup := List.pairwise_map.mpr (List.Pairwise.imp_of_mem (fun {q r} hq hr hne e => by
      injection e with e
      exact hne (one q hq r hr e)) nL)
    refine (List.perm_ext_iff_of_nodup (nodup_of_map (pm.nodup_iff.mpr nref)) nL).mpr fun q => ⟨hs q, fun hq => ?_⟩
    obtain ⟨r, hr, e⟩ := List.mem_map.mp (pm.mem_iff.mpr (List.mem_map.mpr ⟨q, hq, rfl⟩))
    injection e with e
    rw [← one r (hs r hr) q hq e]
    exact hr
  have hl1 := p1.length_eq
  refine wpAny_bind (wpAny_newList ?_ (by rw [sizeLine_eq, List.length_map]; omega))
  generalize hvs : (L1.map fun q => Value.ref q.1) = vs
  have hoL : (s1.heap.push (seqObj "list" vs.toArray 0)).get? s1.heap.objs.size = some (seqObj "list" vs.toArray 0) := Heap.get?_push_size _ rfl
  have rd : ∀ q ∈ L1, Reads (s1.heap.push (seqObj "list" vs.toArray 0)) (.ref q.1) (encT q) [] := fun q hq => by
    obtain ⟨ob, items, n, h1, h2, h3, h4⟩ := isT_keep (R.tup q (hs q hq)) fun b u e => Heap.get?_push_of_some _ (k1 b u e)
    exact .tuple h1 h2 h3 (readsAll_of (ints_of_items h4))
  refine wpAny_bind (wpAny_holding (BS.list_sort_X (s := { s1 with heap := s1.heap.push (seqObj "list" vs.toArray 0) }) (enc := encT) (bs := L1) (R := fun v q => v = Value.ref q.1) hoL (by rw [← hvs]; exact each_of L1 fun q _ => rfl) (by rw [← hvs]; exact each_of L1 fun q hq => ⟨[], by rw [hvs]; exact rd q hq, fun z => nomatch z⟩)
    (fun d hd d' hd' => ?_) (.inr fun d hd => ?_) (by rw [sizeLine_eq]; omega) (fun b hb => ?_) fun out a1 a2 => ?_))
  · obtain ⟨q, _, rfl⟩ := List.mem_map.mp hd
    obtain ⟨r, _, rfl⟩ := List.mem_map.mp hd'
    exact alike_ints2 q.2 r.2
  · obtain ⟨q, hq, rfl⟩ := List.mem_map.mp hd
    exact ⟨_, rfl⟩
  · have : (encT b).depth ≤ 1 := by
      simp only [encT, PyData.depth, dep_ints]
      omega
    show A.units + 1 + _ + _ < _
    omega
  · obtain ⟨c, hc⟩ := sortedHeap_at (vs := vs) (out := List.toArray out) hoL
    refine wpAny_pure ⟨_, rfl, hQ _ s1.heap.objs.size (List.toArray out) c (L1.mergeSort (PySem.W.dataLe false encT)) (fun b u e => ?_) g1 o1 hz hc (by simpa using of_each a2) ((List.mergeSort_perm _ _).trans p1) ?_⟩
    · have q := k1 b u e
      have hlt := Heap.lt_size q
      show (sortedHeap (s1.heap.push (seqObj "list" vs.toArray 0)) s1.heap.objs.size vs (List.toArray out)).get? b = some u
      rw [sortedHeap_old (Nat.ne_of_lt hlt) (by rw [size_push']; exact Nat.lt_succ_of_lt hlt)]
      exact Heap.get?_push_of_some _ q
    · refine List.Pairwise.imp (fun {q r} h => ?_) (List.pairwise_mergeSort le_tr le_tot L1)
      rw [le_lexL] at h
      simpa using h
end
end BS
end
section
set_option Elab.async false
set_option linter.all false
set_option maxRecDepth 100000
set_option maxHeartbeats 4000000
namespace BS
open PySem PySem.Spec L2 PyProof.Rows DL
variable [tB : DL.Tb] [gR : Gr]
def SetB0 (P : Program) (w : World) (h : Heap) (a : Addr) (L : List (Addr × List Int)) : Prop :=
  ∃ (es : Array (Int × Value)) (ep : Nat) (t : SetTable), (∃ o, h.get? a = some o ∧ o.ExactSet ∧ o.data = .set es ep t) ∧ es.toList = rowsOf P w L ∧ Tb t (L.map fun p => thash P w p.2) ∧ (L.map (·.2)).Nodup ∧ t.plain = true ∧
    (w.params.followText "set-order" = true ∨ t.led = true) ∧ L.length * 5 < t.mask * 3
def SetBO (P : Program) (w : World) (a : Addr) (L : List (Addr × List Int)) : HO := .ext fun h => SetB0 P w h a L
theorem SetB.b0 {P : Program} {w : World} {h : Heap} {a : Addr} {L : List (Addr × List Int)} {es : Array (Int × Value)} {ep : Nat} {t : SetTable} (R : SetB P w h a L es ep t) : SetB0 P w h a L := ⟨es, ep, t, R.ob, R.rows, R.tab, R.nd, R.plain, R.led, R.room⟩
theorem setBO_new {P : Program} {w : World} {H : Hp} {h : Heap} {a : Addr} {L : List (Addr × List Int)} (R : SetB0 P w h a L) : ObjOk P w H h a (SetBO P w a L) := by
  have ⟨es, ep, t, ⟨o, ho, r⟩, q⟩ := R
  refine ⟨R, ⟨o, ho⟩, fun h1 h2 p k => ?_⟩
  obtain ⟨es, ep, t, ⟨o, ho, r⟩, q⟩ := p
  exact ⟨es, ep, t, ⟨o, k o ho, r⟩, q⟩
section
variable {X : Cx}
def rSetB (K : PySem.W.Frag) (P : Program) (w : World) : List V → Hp → VK → Prop := fun xs H Q => ∃ (l : Addr) (ks : List (Addr × List Int)), xs = [V.ref l] ∧ (SqL K H l (ks.map fun p => V.ref p.1) ∨ SqT K H l (ks.map fun p => V.ref p.1)) ∧ (∀ p ∈ ks, SqT K H p.1 (p.2.map V.int)) ∧ ks.length < 4000 ∧
  ∀ a L, H a = none → (∀ p ∈ L, p ∈ ks) → (∀ p ∈ ks, p.2 ∈ L.map (·.2)) → L.length ≤ ks.length → Q (.ref a) (upd H a (SetBO P w a L))
theorem cr_setB (hc : X.calm = true) (hu : X.A.units + 64 < cLine) : CallR X (.type "set") (rSetB X.K X.prog X.w) := by
  intro pins s σ H xs us Q I r h
  obtain ⟨l, ks, rfl, hl, hk, hf, q⟩ := h
  rw [Vals.ref1 r]
  have hn : H s.heap.objs.size = none := I.hok.fresh (Nat.le_refl _)
  have fin : ∀ (h' : Heap) (tk : Nat) L es ep t, SetB X.prog X.w h' s.heap.objs.size L es ep t → Got ks ks.length L → (∀ b o, s.heap.get? b = some o → h'.get? b = some o) → ∃ x H', Inv X pins σ H' { s with heap := h', toks := tk } ∧ RelV x (.ref s.heap.objs.size) ∧ Q x H' := fun h' tk L es ep t R g k =>
    ⟨.ref s.heap.objs.size, upd H s.heap.objs.size (SetBO X.prog X.w s.heap.objs.size L), I.laid (t' := tk) k (Nat.le_refl _) (setBO_new R.b0), rfl, q _ L hn (fun p hp => List.mem_of_mem_take (g.sub p hp)) (fun p hp => g.all p (by rw [List.take_length]; exact hp)) g.len⟩
  rcases hl with hl | hl
  · obtain ⟨its, rv, pl, hz⟩ := I.list hl
    exact call_set_list (P := X.prog) (w := X.w) ks (I.ok.hd hc) pl.isList (by simpa using refs_of_vals rv) (fun p hp => I.isT (hk p hp)) hf (by omega) fin
  · obtain ⟨its, rv, ⟨ol, o1, o2, n, o3⟩, hz⟩ := I.tuple hl
    exact call_set_tuple (P := X.prog) (w := X.w) ks (I.ok.hd hc) ⟨ol, o1, o2, n, o3⟩ (by simpa using refs_of_vals rv) (fun p hp => I.isT (hk p hp)) hf (by omega) fin
def rSortedB (K : PySem.W.Frag) (P : Program) (w : World) : List V → Hp → VK → Prop := fun vs H Q => ∃ (a : Addr) (L : List (Addr × List Int)), vs = [V.ref a] ∧ H a = some (SetBO P w a L) ∧ (∀ p ∈ L, SqT K H p.1 (p.2.map V.int)) ∧ L.length < 4000 ∧
  ∀ (L' : List (Addr × List Int)) (p : Addr), L'.Perm L → (L'.map (·.2)).Nodup → L'.Pairwise (fun q r => lexL r.2 q.2 = false) → H p = none → Q (.ref p) (upd H p (.lst (L'.map fun q => V.ref q.1)))
theorem cr_sortedB (hc : X.calm = true) (hu : X.A.units + 64 < cLine) : CallR X (.builtin "sorted") (rSortedB X.K X.prog X.w) := by
  intro pins s σ H vs us Q I r h
  obtain ⟨a, L, rfl, ha, hk, hf, q⟩ := h
  obtain ⟨es, ep, t, r1, r2, r3, r4, r5, r6, r7⟩ : SetB0 X.prog X.w s.heap a L := (I.hok a _ ha).1
  rw [Vals.ref1 r]
  refine sorted_B (P := X.prog) (w := X.w) ⟨r1, r2, r3, r4, fun p hp => I.isT (hk p hp), r5, r6, r7⟩ (I.ok.hd hc) hf hu fun s' p out c L' k g o hp hg hout pm pw => ?_
  have hlen : (L'.map fun q => V.ref q.1).length ≤ sizeLine := by rw [List.length_map, sizeLine_eq, pm.length_eq]; omega
  have hn : H p = none := I.hok.fresh hp
  have hv : Vals (L'.map fun q => V.ref q.1) out.toList := by rw [hout]; exact vals_of_refs L'
  have J : Inv X pins σ (upd H p (.lst (L'.map fun q => V.ref q.1))) { s with heap := s'.heap, gens := s'.gens, drawn := s'.drawn, toks := s'.toks } :=
    I.call (ch := []) (Un.laid k hp hn) (I.hok.laid k hp ⟨hlen, out.toList, c, hv, hg⟩) (by rw [g]; exact I.bare) (fun _ z => nomatch z)
  have e : s' = { s with heap := s'.heap, gens := s'.gens, drawn := s'.drawn, toks := s'.toks } := by
    cases s'
    cases s
    cases o
    rfl
  rw [e]
  exact ⟨.ref p, _, J, rfl, q L' p pm ((pm.map (·.2)).nodup_iff.mpr r4) pw hn⟩
end
section
variable {P : Program} {w : World} {K : PySem.W.Frag} {mg : Str → Option Value} {base : Heap} {X : Cx} {N : List Str} {sc fs : Scope} {k : Nat}
/-- sorted(set(x)) -/
def qSortB (m : Bool) (te : TD) : TD := fun ε st Q => te ε st fun x s1 => match sitems s1 x with
  | some l => (match tints l with
    | some ts => ts.length < 4000 ∧ newL m ((sortU ts).map fun a => .d (.tuple (a.map .int))) s1 Q
    | none => False)
  | none => False
theorem de_sortB {e : Expr} {te : TD} {p p2 pos pos2 : Pos} (m : Bool) (c : Cok P w K mg base X N sc fs k) (hg : glB sc "sorted" = true) (hm : mg "sorted" = none) (hg2 : glB sc "set" = true) (hm2 : mg "set" = none) (ha : DE X e te)
    (he : starEach [e] X.env = (false, eval e X.env) :: starEach [] X.env := by rfl) : DE X (.Call (.Name "sorted" p) [.Call (.Name "set" p2) [e] [] pos2] [] pos) (qSortB m te) := by
  obtain ⟨t1, p1, a1⟩ := ha
  have g := gl_of c hg
  have g2 := gl_of c hg2
  have hc := c.calm
  refine ⟨⟨_, pe_callB (cr_sortedB hc c.hu65) g.1 (by rw [c.hmg]; exact hm) bb_sorted (pa_cons (pe_callTy (cr_setB hc c.hu65) g2.1 (by rw [c.hmg]; exact hm2) bt_set (pa_cons p1 pa_nil he) g2.2.1 g2.2.2 he rfl) pa_nil rfl) g.2.1 g.2.2 rfl rfl, fun F σ H ε st Qd Q R E h kk => ?_⟩⟩
  refine a1.go (W := fun x H1 => _) R E h kk fun F1 H1 s1 v y R1 E1 rv q kk => ?_
  split at q
  rotate_left
  · exact q.elim
  rename_i l el
  split at q
  rotate_left
  · exact q.elim
  rename_i ts et
  obtain ⟨hf, q⟩ := q
  obtain ⟨pa, vs, rfl, hq, s⟩ := sitems_rv R1 rv el
  obtain ⟨ks, rfl, rfl, hF⟩ := tints_rvs s et
  rw [List.length_map] at hf
  have hk : ∀ z ∈ ks, SqT X.K H1 z.1 (z.2.map V.int) := fun z hz => SqT.of (R1.sub _ _ (hF z hz)).1
  refine ⟨pa, ks, rfl, hq, hk, hf, fun a L ha h1 h2 hlen => ?_⟩
  obtain ⟨R2, S2⟩ := R1.hide (o := SetBO X.prog X.w a L) ha
  refine ⟨a, L, rfl, upd_same, fun z hz => SqT.of (R2.sub _ _ (hF z (h1 z hz))).1, by omega, fun L' pp pm nd pw hp => ?_⟩
  have hL : ∀ z ∈ L', z ∈ ks := fun z hz => h1 z (pm.mem_iff.mp hz)
  have e : sortU (ks.map (·.2)) = L'.map (·.2) := by
    refine sortU_eq ?_ fun x => ?_
    · refine List.pairwise_map.mpr ?_
      have nd' : L'.Pairwise fun q r => q.2 ≠ r.2 := List.pairwise_map.mp nd
      refine List.Pairwise.imp (fun {y z} hyz => ?_) (List.Pairwise.and nd' pw)
      rcases lexL_tri y.2 z.2 with e | e | e
      · exact e
      · exact absurd e hyz.1
      · rw [hyz.2] at e; cases e
    · constructor
      · intro hx
        obtain ⟨z, hz, rfl⟩ := List.mem_map.mp hx
        obtain ⟨z', hz', e⟩ := List.mem_map.mp (h2 z hz)
        exact List.mem_map.mpr ⟨z', pm.mem_iff.mpr hz', e⟩
      · intro hx
        obtain ⟨z, hz, rfl⟩ := List.mem_map.mp hx
        exact List.mem_map.mpr ⟨z, hL z hz, rfl⟩
  rw [e, List.map_map] at q
  refine new_lst R2 (m := m) ?_ hp q fun F' b H' b' st' S3 R3 r3 q3 => kk F' b H' b' st' (S2.trans S3) R3 r3 q3
  have : ∀ L'' : List (Addr × List Int), (∀ z ∈ L'', z ∈ ks) → RVs X.K F1 (L''.map fun q => V.ref q.1) (L''.map ((fun a => DV.d (.tuple (a.map .int))) ∘ (·.2))) := by
    intro L''
    induction L'' with
    | nil => exact fun _ => .nil
    | cons z r ih => exact fun hz => .cons (.d (.tup (hF z (hz z List.mem_cons_self)) (rp_all z.2))) (ih fun y hy => hz y (List.mem_cons_of_mem _ hy))
  exact this L' hL
end
end BS
end
section
set_option Elab.async false
set_option linter.all false
set_option maxRecDepth 100000
set_option maxHeartbeats 4000000
namespace DL
open PySem PySem.Spec L2 PyProof.Rows
variable [tB : Tb] [gR : Gr]
section
variable {X : Cx}
abbrev leD : PyData → PyData → Bool := PySem.W.dataLe false id
def rSortD (K : PySem.W.Frag) : List V → Hp → VK → Prop := fun vs H Q => ∃ (a : Addr) (bs : List (V × PyData)), vs = [V.ref a] ∧ SqL K H a (bs.map (·.1)) ∧ (∀ p ∈ bs, Dp K H p.1 p.2) ∧ PySem.W.AllAlike (bs.map (·.2)) ∧ BS.SortX (bs.map (·.2)) ∧ bs.length ≤ 100000 ∧ (∀ p ∈ bs, p.2.depth ≤ 16) ∧
  ∀ p : Addr, H p = none → Q (.ref p) (upd H p (.lst ((bs.mergeSort fun x y => leD x.2 y.2).map (·.1))))
theorem each_of_vals {R : Value → V × PyData → Prop} : ∀ {bs : List (V × PyData)} {us : List Value}, Vals (bs.map (·.1)) us → (∀ p ∈ bs, ∀ u, RelV p.1 u → R u p) → PySem.W.EachIs R us bs
  | [], _, h, _ => by cases h; exact .nil
  | p :: bs, _, h, k => by
    cases h with
    | cons r1 r2 => exact .cons (k p List.mem_cons_self _ r1) (each_of_vals r2 fun q hq => k q (List.mem_cons_of_mem _ hq))
theorem vals_of_each : ∀ {bs : List (V × PyData)} {us : List Value}, PySem.W.EachIs (fun u p => RelV p.1 u) us bs → Vals (bs.map (·.1)) us
  | [], _, h => by cases h; exact .nil
  | p :: bs, _, h => by
    cases h with
    | cons r1 r2 => exact .cons r1 (vals_of_each r2)
theorem cr_sortD (hc : X.calm = true) (hu : X.A.units + 64 < cLine) : CallR X (.builtin "sorted") (rSortD X.K) := by
  intro pins s σ H vs us Q I r h
  obtain ⟨a, bs, rfl, hs, hd, hal, hk, hl, hdep, q⟩ := h
  obtain ⟨its, rv, hil, _⟩ := I.list hs
  rw [Vals.ref1 r]
  have hz : bs.length ≤ sizeLine := by rw [sizeLine_eq]; omega
  refine BS.sorted_X (enc := fun p : V × PyData => p.2) (R := fun u p => RelV p.1 u) hil.isList (each_of_vals rv fun p _ u r => r) (each_of_vals rv fun p hp u r => Dp.reads I p.2 p.1 u (hd p hp) r) hal hk hz (fun p hp => by have := hdep p hp; omega) fun out ho e => ?_
  obtain ⟨ep, he'⟩ := PyProof.Rows.sortedAll_at s.heap its out.toArray
  have e2 : (bs.mergeSort (PySem.W.dataLe false fun p : V × PyData => p.2)) = bs.mergeSort fun x y => leD x.2 y.2 := rfl
  rw [e2] at e
  have hlen : ((bs.mergeSort fun x y => leD x.2 y.2).map (·.1)).length ≤ sizeLine := by rw [List.length_map, List.length_mergeSort]; exact hz
  exact ⟨.ref _, upd H (s.heap.objs.size + 1) (.lst ((bs.mergeSort fun x y => leD x.2 y.2).map (·.1))), I.laid (t' := s.toks) (fun _ _ => PyProof.Rows.sortedAll_old) (Nat.le_succ _) ⟨hlen, out, ep, vals_of_each e, he'⟩, rfl, q _ (I.hok.fresh (Nat.le_succ _))⟩
end
section
variable {P : Program} {w : World} {K : PySem.W.Frag} {mg : Str → Option Value} {base : Heap} {X : Cx} {N : List Str} {sc fs : Scope} {k : Nat}
/-- sorted(x) of a list of data -/
def qSortD (m : Bool) (te : TD) : TD := fun ε st Q => te ε st fun x s1 => match (litems s1 x).bind datas with
  | some ds => PySem.W.AllAlike ds ∧ BS.SortX ds ∧ ds.length ≤ 100000 ∧ (∀ d ∈ ds, d.depth ≤ 16) ∧ newL m ((ds.mergeSort leD).map .d) s1 Q
  | none => False
theorem de_sortD {e : Expr} {te : TD} {p pos : Pos} (m : Bool) (c : Cok P w K mg base X N sc fs k) (hg : glB sc "sorted" = true) (hm : mg "sorted" = none) (ha : DE X e te)
    (he : starEach [e] X.env = (false, eval e X.env) :: starEach [] X.env := by rfl) : DE X (.Call (.Name "sorted" p) [e] [] pos) (qSortD m te) := by
  obtain ⟨t1, p1, a1⟩ := ha
  have g := gl_of c hg
  have hc := c.calm
  refine ⟨⟨_, pe_callB (cr_sortD hc c.hu65) g.1 (by rw [c.hmg]; exact hm) bb_sorted (pa_cons p1 pa_nil he) g.2.1 g.2.2 he rfl, fun F σ H ε st Qd Q R E h kk => ?_⟩⟩
  refine a1.go (W := fun x H1 => _) R E h kk fun F1 H1 s1 v y R1 E1 rv q kk => ?_
  split at q
  rotate_left
  · exact q.elim
  rename_i ds ed
  obtain ⟨l, el, ed⟩ := Option.bind_eq_some_iff.mp ed
  obtain ⟨hal, hk, hl, hdep, q⟩ := q
  obtain ⟨pa, vs, rfl, hq, s⟩ := litems_rv R1 rv el
  have ed2 := datas_eq ed
  subst ed2
  have hall := s.all
  have hlen : vs.length = ds.length := by rw [s.length, List.length_map]
  have e1 : (vs.zip ds).map (·.1) = vs := by rw [List.map_fst_zip (by omega)]
  have e2 : (vs.zip ds).map (·.2) = ds := by rw [List.map_snd_zip (by omega)]
  have hdp : ∀ (vs : List V) (ds : List PyData), RpAll X.K F1 vs ds → ∀ z ∈ vs.zip ds, Rp X.K F1 z.1 z.2 := by
    intro vs
    induction vs with
    | nil => intro ds _ z hz; simp at hz
    | cons v vs ih =>
      intro ds h z hz
      cases h with
      | cons h1 h2 =>
        rcases List.mem_cons.mp (by simpa using hz) with rfl | hz
        · exact h1
        · exact ih _ h2 z hz
  have hz := hdp vs ds hall
  refine ⟨pa, vs.zip ds, rfl, by rw [e1]; exact hq, fun z hzm => (hz z hzm).dp (fun a o h => (R1.sub a o h).1), by rw [e2]; exact hal, by rw [e2]; exact hk, by rw [List.length_zip]; omega, fun z hzm => hdep _ (by rw [← e2]; exact List.mem_map.mpr ⟨z, hzm, rfl⟩), fun pp hp => ?_⟩
  have e3 : ((vs.zip ds).mergeSort fun x y => leD x.2 y.2).map (·.2) = ds.mergeSort leD := by
    rw [List.map_mergeSort (s := leD) (fun a _ b _ => rfl), e2]
  rw [← e3, List.map_map] at q
  refine new_lst R1 (m := m) ?_ hp q kk
  have : ∀ L : List (V × PyData), (∀ z ∈ L, z ∈ vs.zip ds) → RVs X.K F1 (L.map (·.1)) (L.map (DV.d ∘ (·.2))) := by
    intro L
    induction L with
    | nil => exact fun _ => .nil
    | cons z r ih => exact fun hzz => .cons (.d (hz z (hzz z List.mem_cons_self))) (ih fun y hy => hzz y (List.mem_cons_of_mem _ hy))
  exact this _ fun z hzz => (List.mergeSort_perm _ _).mem_iff.mp hzz
end
end DL
end
section
set_option Elab.async false
set_option linter.all false
set_option maxRecDepth 100000
set_option maxHeartbeats 4000000
namespace DL
open PySem PySem.Spec L2 PyProof.Rows
variable [tB : Tb] [gR : Gr]
section
variable {X : Cx}
def seqD : PyData → Option (List PyData)
  | .list ds => some ds
  | .tuple ds => some ds
  | _ => none
def qIn (neg : Bool) : R2D := fun x y st Q => match fz st x, (fz st y).bind seqD with
  | some d, some ds => d.canLay0 = true ∧ d.depth ≤ 32 ∧ PyData.canLayAll0 ds = true ∧ Q (.d (.bool (if neg then !(ds.any fun z => PyData.eqv z d) else ds.any fun z => PyData.eqv z d))) st
  | _, _ => False
end
theorem any_int (a : List Int) (i : Int) : ((a.map PyData.int).any fun z => PyData.eqv z (.int i)) = decide (i ∈ a) := by
  rw [Bool.eq_iff_iff, List.any_map, List.any_eq_true, decide_eq_true_eq]
  constructor
  · rintro ⟨j, hj, h⟩
    simp only [Function.comp, PyData.eqv] at h
    have : j = i := by simpa using h
    rw [← this]
    exact hj
  · intro h
    exact ⟨i, h, by simp [Function.comp, PyData.eqv]⟩
theorem lay_ints (a : List Int) : PyData.canLayAll0 (a.map PyData.int) = true := by
  induction a with
  | nil => simp [PyData.canLayAll0]
  | cons x a ih => simp [PyData.canLayAll0, PyData.canLay0, ih]
theorem qIn_IT (neg : Bool) (i : Int) (a : List Int) (st : Sto) (Q : DV → Sto → Prop) : qIn neg (.d (.int i)) (.d (.tuple (a.map .int))) st Q = Q (.d (.bool (if neg then !decide (i ∈ a) else decide (i ∈ a)))) st := by
  unfold qIn
  simp only [fz, Option.bind_some, seqD, any_int, lay_ints, PyData.canLay0, PyData.depth, Nat.zero_le, true_and]
theorem qIn_IL (neg : Bool) (i : Int) (a : List Int) (st : Sto) (Q : DV → Sto → Prop) : qIn neg (.d (.int i)) (.d (.list (a.map .int))) st Q = Q (.d (.bool (if neg then !decide (i ∈ a) else decide (i ∈ a)))) st := by
  unfold qIn
  simp only [fz, Option.bind_some, seqD, any_int, lay_ints, PyData.canLay0, PyData.depth, Nat.zero_le, true_and]
theorem eqvAll_ints : ∀ a b : List Int, PyData.eqvAll (a.map .int) (b.map .int) = decide (a = b)
  | [], [] => by simp [PyData.eqvAll]
  | [], y :: ys => by simp [PyData.eqvAll]
  | x :: xs, [] => by simp [PyData.eqvAll]
  | x :: xs, y :: ys => by
    rw [List.map_cons, List.map_cons, PyData.eqvAll, eqvAll_ints xs ys, PyData.eqv]
    by_cases h1 : x = y <;> by_cases h2 : xs = ys <;> simp [h1, h2]
theorem any_tup (l : List (List Int)) (a : List Int) : ((l.map fun b => PyData.tuple (b.map .int)).any fun z => PyData.eqv z (.tuple (a.map .int))) = decide (a ∈ l) := by
  rw [Bool.eq_iff_iff, List.any_map, List.any_eq_true, decide_eq_true_eq]
  constructor
  · rintro ⟨b, hb, h⟩
    simp only [Function.comp, PyData.eqv, eqvAll_ints, decide_eq_true_eq] at h
    rw [← h]
    exact hb
  · intro h
    exact ⟨a, h, by simp only [Function.comp, PyData.eqv, eqvAll_ints, decide_true]⟩
theorem lay_tups (l : List (List Int)) : PyData.canLayAll0 (l.map fun b => PyData.tuple (b.map .int)) = true := by
  induction l with
  | nil => simp [PyData.canLayAll0]
  | cons x a ih => simp only [List.map_cons, PyData.canLayAll0, PyData.canLay0, ih, lay_ints, Bool.and_self]
theorem dep_tup (a : List Int) : (PyData.tuple (a.map .int)).depth ≤ 32 := by
  have : PyData.depthAll (a.map .int) = 0 := dep_ints a
  simp only [PyData.depth, this]
  omega
theorem qIn_TT (neg : Bool) (a : List Int) (l : List (List Int)) (st : Sto) (Q : DV → Sto → Prop) : qIn neg (.d (.tuple (a.map .int))) (.d (.tuple (l.map fun b => .tuple (b.map .int)))) st Q = Q (.d (.bool (if neg then !decide (a ∈ l) else decide (a ∈ l)))) st := by
  have h := dep_tup a
  unfold qIn
  simp only [fz, Option.bind_some, seqD, any_tup, lay_tups, lay_ints, PyData.canLay0, h, true_and]
theorem qIn_TL (neg : Bool) (a : List Int) (l : List (List Int)) (st : Sto) (Q : DV → Sto → Prop) : qIn neg (.d (.tuple (a.map .int))) (.d (.list (l.map fun b => .tuple (b.map .int)))) st Q = Q (.d (.bool (if neg then !decide (a ∈ l) else decide (a ∈ l)))) st := by
  have h := dep_tup a
  unfold qIn
  simp only [fz, Option.bind_some, seqD, any_tup, lay_tups, lay_ints, PyData.canLay0, h, true_and]
end DL
end
section
set_option Elab.async false
set_option linter.all false
set_option maxRecDepth 100000
set_option maxHeartbeats 2000000
namespace L2
open PySem PySem.Spec PyProof.Rows
/-- {k: v}, k a tuple of ints and texts; the new dict stands empty while the pair is made -/
def tDisp1T (tk tv : TE) : TE := fun σ H Q => ∀ p, H p = none → tk σ (upd H p (.dT [])) fun x H1 => tv σ H1 fun y H2 => H2 p = some (.dT []) ∧ ∃ (b : Addr) (k : List Key), x = .ref b ∧ H2 b = some (.tup (k.map kV)) ∧ Q (.ref p) (upd H2 p (.dT [(k, y)]))
theorem pe_disp1T {X : Cx} {pos : Pos} {ke ve : Expr} {tk tv : TE} (hu : X.A.units + 1 < cLine) (hk : PE X ke tk) (hv : PE X ve tv) : PE X (.Dict [some ke] [ve] pos) (tDisp1T tk tv) := by
  refine ⟨fun pins s σ H Q I q => ?_⟩
  have hn := I.hok.fresh (Nat.le_refl s.heap.objs.size)
  have I1 := I.laid (a := s.heap.objs.size) (o := .dT []) (h' := s.heap.push { cls := .type "dict", data := .dict #[] }) (t' := s.toks) (fun _ _ q => Heap.get?_push_of_some _ q) (Nat.le_refl _) (dt_empty s.heap I.big)
  refine wpAny_Dict_any rfl rfl (fun h => nomatch h) (show 1 ≤ 15 by decide) (pairTrees_cons_walk (thn (hk.run pins _ σ _ _ I1 (q _ hn)) fun u s1 ⟨x, H1, J1, rx, q1⟩ => thn (hv.run pins s1 σ H1 _ J1 q1) fun w2 s2 ⟨y, H2, J2, ry, e, b, k, ex, eb, q2⟩ => pairTrees_nil_walk ?_))
  subst ex
  cases (show u = Value.ref b from rx)
  obtain ⟨z, hd, xs, rel, dd⟩ := dt_of J2.hok e
  cases rel
  unfold storeAll
  rw [List.forIn_cons]
  refine wpAny_bind (wpAny_bind (wpAny_dictSet_heap (hsz := by simp) (show X.A.units < cLine from Nat.lt_of_succ_lt hu) (key_of J2.hok eb) dd fun h' dd' hs => wpAny_pure ?_))
  refine wpAny_pure ⟨.ref s.heap.objs.size, _, ?_, rfl, q2⟩
  obtain ⟨ob, es, ep, hq, h2, h3, h4, _, h5⟩ := dd'
  have rel1 : KT H2 [(k, y)] [(k, b, w2)] := Paired.cons ⟨rfl, eb, ry⟩ .nil
  refine d_write J2 (by rw [e]; exact True.intro) hs ⟨ob, hq⟩ ⟨(show 1 ≤ sizeLine by rw [sizeLine_eq]; decide), hd, _, KT.keeps rel1 fun c ys ec => ?_, ob, es, ep, hq, h2, h3, h4, h5⟩
  rw [upd_ne (ne_of ec e (fun z => nomatch z))]
  exact ec
end L2
namespace BS
open PySem PySem.Spec L2 PyProof.Rows DL
section
variable {X : Cx}
def keyInt : Key → Int
  | .inl i => i
  | .inr _ => 0
theorem keyInts_inl (ns : List Int) : (ns.map Sum.inl : List Key).map keyInt = ns := by
  induction ns with
  | nil => rfl
  | cons n ns ih => rw [List.map_cons, List.map_cons, ih]; rfl
theorem kV_inl (ns : List Int) : (ns.map Sum.inl : List Key).map kV = ns.map V.int := by
  induction ns with
  | nil => rfl
  | cons n ns ih => rw [List.map_cons, List.map_cons, List.map_cons, ih]; rfl
def IntKeys {β : Type} (kvs : List (List Key × β)) : Prop := ∀ p ∈ kvs, ∃ ns : List Int, p.1 = ns.map Sum.inl
end
end BS
namespace DL
open PySem PySem.Spec L2 PyProof.Rows
variable [tB : Tb] [gR : Gr]
section
variable {P : Program} {w : World} {K : PySem.W.Frag} {mg : Str → Option Value} {base : Heap} {X : Cx} {N : List Str} {sc fs : Scope} {k : Nat}
/-- immutable tuples come into sight -/
def extF (F H : Hp) (bs : List Addr) : Hp := fun a => if a ∈ bs then H a else F a
theorem extF_in {F H : Hp} {bs : List Addr} {b : Addr} (h : b ∈ bs) : extF F H bs b = H b := if_pos h
theorem ext_tups {F H : Hp} {st : Sto} {bs : List Addr} (R : Rs K F H st) (hb : ∀ b ∈ bs, ∃ ts, H b = some (.tup ts)) : Rs K (extF F H bs) H st ∧ Step F H st (extF F H bs) H st := by
  have ex : ∀ a o, F a = some o → extF F H bs a = some o := fun a o h => by
    unfold extF
    split
    · exact (R.sub a o h).1
    · exact h
  have fn : ∀ a o, extF F H bs a = some o → F a ≠ none ∨ H a = none ∨ st a ≠ none ∨ ∃ ts, H a = some (.tup ts) := fun a o h => by
    unfold extF at h
    split at h
    · rename_i hm
      exact .inr (.inr (.inr (hb a hm)))
    · exact .inl (by rw [h]; exact fun z => nomatch z)
  suffices h : Rs0 K (extF F H bs) H st ∧ Step F H st (extF F H bs) H st from ⟨R.by h.1 h.2, h.2⟩
  refine ⟨⟨fun a o h => ?_, fun a m h => MOk.mono ex rfl (R.ok a m h), R.tb.keep (fun a o h k => ⟨h, k⟩) fn⟩, Step.of ex (fun a o h k => ⟨h, k⟩) fn⟩
  · unfold extF at h
    split at h
    · rename_i hm
      refine ⟨h, ?_⟩
      obtain ⟨ts, e⟩ := hb a hm
      cases es : st a with
      | none => rfl
      | some m =>
        exfalso
        have := R.ok a m es
        cases m with
        | lst xs => obtain ⟨vs, e2, _⟩ := this; rw [e] at e2; cases e2
        | dK xs => obtain ⟨vs, e2, _⟩ := this; rw [e] at e2; cases e2
        | dT xs => obtain ⟨vs, e2, _⟩ := this; rw [e] at e2; cases e2
        | ins C fs => obtain ⟨dx, vs, e2, _⟩ := this; rw [e] at e2; cases e2
        | lk o ws kvs => obtain ⟨e2, _⟩ := this; rw [e] at e2; cases e2
        | xd xs => obtain ⟨vs, e2, _⟩ := this; rw [e] at e2; cases e2
    · exact R.sub a o h
def tupD (a : List Int) : DV := .d (.tuple (a.map .int))
theorem ext_rvs {F H : Hp} : ∀ (L : List (Addr × List Int)), (∀ q ∈ L, F q.1 = some (.tup (q.2.map V.int))) → RVs K F (L.map fun q => V.ref q.1) ((L.map (·.2)).map tupD)
  | [], _ => .nil
  | q :: L, h => .cons (.d (.tup (h q List.mem_cons_self) (rp_all q.2))) (ext_rvs (F := F) (H := H) L fun r hr => h r (List.mem_cons_of_mem _ hr))
theorem pr_keys {F : Hp} {κ : Type} : ∀ {ws : List (κ × V)} {kvs : List (κ × DV)}, PR K F ws kvs → ws.map (·.1) = kvs.map (·.1)
  | _, _, .nil => rfl
  | _, _, .cons h t => by rw [List.map_cons, List.map_cons, h.1, pr_keys t]
theorem intKeys_of {β γ : Type} {ws : List (List Key × β)} {kvs : List (List Key × γ)} (e : ws.map (·.1) = kvs.map (·.1)) (h : BS.IntKeys kvs) : BS.IntKeys ws := fun p hp => by
  have : p.1 ∈ kvs.map (·.1) := by rw [← e]; exact List.mem_map.mpr ⟨p, hp, rfl⟩
  obtain ⟨q, hq, eq⟩ := List.mem_map.mp this
  obtain ⟨ns, en⟩ := h q hq
  exact ⟨ns, by rw [← eq, en]⟩
def keysD (kvs : List (List Key × DV)) : List (List Int) := kvs.map fun x => x.1.map BS.keyInt
/-- list(d) -/
def qListDT (m : Bool) : RLD := fun xs st Q => match xs with
  | [.r a] => (match st a with
    | some (.dT kvs) => BS.IntKeys kvs ∧ newL m ((keysD kvs).map tupD) st Q
    | _ => False)
  | _ => False
theorem c_listDT (m : Bool) (hc : X.calm = true) : ∃ r', CallR X (.type "list") r' ∧ SL X.K r' (qListDT m) := by
  refine ⟨_, call_list_dT hc, ?_⟩
  intro F H st vs xs Qd Q R rv h kk
  unfold qListDT at h
  split at h
  rotate_left
  · exact h.elim
  rename_i a
  split at h
  rotate_left
  · exact h.elim
  rename_i kvs e
  obtain ⟨hik, q⟩ := h
  obtain ⟨v, rfl, r⟩ := rvs1 rv
  cases r
  obtain ⟨ws, hw, pr⟩ := R.ok a _ e
  have ek := pr_keys pr
  refine ⟨a, ws, rfl, .inl hw, fun p bs hp hb => ?_⟩
  have key : ∀ {ws : List (List Key × V)} {bs : List Addr}, BS.IntKeys ws → IsKeys H ws bs → ∃ L : List (Addr × List Int), bs = L.map (·.1) ∧ L.map (·.2) = ws.map (fun x => x.1.map BS.keyInt) ∧ ∀ q ∈ L, H q.1 = some (.tup (q.2.map V.int)) := by
    intro ws bs hi hk
    unfold IsKeys at hk
    induction hk with
    | nil => exact ⟨[], rfl, rfl, fun q hq => nomatch hq⟩
    | @cons x b ps qs hx t ih =>
      obtain ⟨L, h1, h2, h3⟩ := ih fun y hy => hi y (List.mem_cons_of_mem _ hy)
      obtain ⟨ns, en⟩ := hi x List.mem_cons_self
      refine ⟨(b, ns) :: L, by rw [h1]; rfl, by rw [List.map_cons, List.map_cons, h2, en, BS.keyInts_inl], fun y hy => ?_⟩
      rcases List.mem_cons.mp hy with rfl | hy
      · show H b = some (.tup (ns.map V.int))
        rw [hx, en, BS.kV_inl]
      · exact h3 y hy
  obtain ⟨L, rfl, e2, hH⟩ := key (intKeys_of ek hik) hb
  obtain ⟨R2, S2⟩ := ext_tups (bs := L.map (·.1)) R fun b hb => by
    obtain ⟨y, hy, rfl⟩ := List.mem_map.mp hb
    exact ⟨_, hH y hy⟩
  have e1 : keysD kvs = L.map (·.2) := by
    rw [e2]
    unfold keysD
    have := congrArg (List.map fun k : List Key => k.map BS.keyInt) ek
    rw [List.map_map, List.map_map] at this
    exact this.symm
  rw [e1] at q
  have ev : (L.map (·.1)).map V.ref = L.map fun q => V.ref q.1 := by rw [List.map_map]; rfl
  rw [ev]
  exact new_lst R2 (m := m) (ext_rvs (H := H) L fun y hy => by rw [extF_in (List.mem_map.mpr ⟨y, hy, rfl⟩)]; exact hH y hy) hp q fun F' b H' b' st' S3 R3 r3 q3 => kk F' b H' b' st' (S2.trans S3) R3 r3 q3
def keyX (x : DV) : Option (List Key) := match titems x with | some ys => keyT ys | none => none
/-- {k: v}, k a tuple -/
def qDispT (tk tv : TD) : TD := fun ε st Q => tk ε st fun x s1 => tv ε s1 fun y s2 => match keyX x with
  | some q => ∀ p, s2 p = none → Q (.r p) (up s2 p (.dT [(q, y)]))
  | none => False
theorem de_dispT {pos : Pos} {ke ve : Expr} {tk tv : TD} (c : Cok P w K mg base X N sc fs k) (hk : DE X ke tk) (hv : DE X ve tv) : DE X (.Dict [some ke] [ve] pos) (qDispT tk tv) := by
  obtain ⟨t1, p1, a1⟩ := hk
  obtain ⟨t2, p2, a2⟩ := hv
  refine ⟨⟨_, pe_disp1T c.hu p1 p2, fun F σ H ε st Qd Q R E h kk p hp => ?_⟩⟩
  obtain ⟨f0, s0⟩ := R.free hp
  obtain ⟨R', t'⟩ := R.hide (o := .dT []) hp
  refine a1 F σ _ ε st _ _ R' E h fun F1 v1 H1 x s1 t1' R1 r1 q => ?_
  refine a2 F1 σ H1 ε s1 _ _ R1 (E.mono t1'.ex) q fun F2 v2 H2 y s2 t2' R2 r2 q => ?_
  obtain ⟨hp1, f1, d1⟩ := (t1'.trans t2').hid upd_same f0 s0
  split at q
  rotate_left
  · exact q.elim
  rename_i kk' ek
  unfold keyX at ek
  split at ek
  rotate_left
  · cases ek
  rename_i ys ey
  obtain ⟨b, vs, rfl, hb, sb⟩ := titems_rv r1 ey
  have hv := keyT_rv sb ek
  subst hv
  have hb' := (R2.sub _ _ (t2'.ex _ _ hb)).1
  refine ⟨hp1, b, kk', rfl, hb', ?_⟩
  have R3 := R2.hput (o := .dT [(kk', v2)]) f1 d1 hp1 R (t'.trans (t1'.trans t2')) hp
  have t3 : Step F H st F2 (upd H2 p (.dT [(kk', v2)])) s2 := (t'.trans (t1'.trans t2')).hput hp
  have ss : Step F H st F2 (upd H2 p (.dT [(kk', v2)])) (up s2 p (.dT [(kk', y)])) := t3.seen hp
  refine kk F2 (.ref p) _ (.r p) (up s2 p (.dT [(kk', y)])) ss (R.by ⟨fun a u ha => ?_, fun a m ha => ?_, R3.tb.up upd_same⟩ ss) (.r p) (q p d1)
  · rw [up_ne (fun z => by rw [z, f1] at ha; cases ha)]; exact R3.sub a u ha
  · by_cases z : a = p
    · subst z; rw [up_same] at ha; cases ha; exact ⟨_, upd_same, .cons ⟨rfl, r2⟩ .nil⟩
    · rw [up_ne z] at ha; exact R3.ok a m ha
end
end DL
end
section
set_option Elab.async false
set_option linter.all false
set_option maxRecDepth 100000
set_option maxHeartbeats 2000000
namespace DL
open PySem PySem.Spec L2 PyProof.Rows
variable [tB : Tb] [gR : Gr]
section
variable {P : Program} {w : World} {K : PySem.W.Frag} {mg : Str → Option Value} {base : Heap} {X : Cx} {N : List Str} {sc fs : Scope} {k : Nat}
def isDM : Option MO → Bool
  | some (.dK _) => true
  | some (.dT _) => true
  | some (.lk _ _ _) => true
  | _ => false
/-- d.get(k, x) -/
def qGet (td ty tx : TD) : TD := fun ε st Q => td ε st fun x s1 => match x with
  | .r a => isDM (s1 a) = true ∧ ty ε s1 fun y s2 => tx ε s2 fun z s3 => match dlook (s3 a) y with
    | some o => Q (o.getD z) s3
    | none => False
  | _ => False
theorem isD_of {F H : Hp} {st : Sto} {a : Addr} (R : Rs K F H st) (h : isDM (st a) = true) : IsD H a := by
  cases e : st a with
  | none => rw [e] at h; cases h
  | some m =>
    have := R.ok a m e
    cases m with
    | lst xs => rw [e] at h; cases h
    | ins C fs => rw [e] at h; cases h
    | dK kvs => obtain ⟨ws, hw, _⟩ := this; exact .inl ⟨ws, .inl hw⟩
    | dT kvs => obtain ⟨ws, hw, _⟩ := this; exact .inr ⟨ws, .inl hw⟩
    | lk o ws kvs => obtain ⟨hw, _⟩ := this; exact .inr ⟨ws, .inr ⟨o, hw⟩⟩
    | xd fs => rw [e] at h; cases h
theorem de_get {o e f : Expr} {apos cpos : Pos} {td ty tx : TD} (c : Cok P w K mg base X N sc fs k) (ho : DE X o td) (he : DE X e ty) (hf : DE X f tx)
    (m : M2 X o "get" apos e f cpos := by exact ⟨rfl, rfl, rfl, rfl⟩) : DE X (.Call (.Attribute o "get" apos) [e, f] [] cpos) (qGet td ty tx) := by
  obtain ⟨t1, p1, a1⟩ := ho
  obtain ⟨t2, p2, a2⟩ := he
  obtain ⟨t3, p3, a3⟩ := hf
  refine ⟨⟨_, pe_dget2 c.hu p1 p2 p3 m, fun F σ H ε st Qd Q R E h kk => ?_⟩⟩
  refine a1 F σ H ε st _ _ R E h fun F1 v H1 x s1 st1 R1 r1 q => ?_
  split at q
  rotate_left
  · exact q.elim
  rename_i a
  obtain ⟨hd, q⟩ := q
  cases r1
  refine ⟨a, rfl, isD_of R1 hd, ?_⟩
  refine a2 F1 σ H1 ε s1 _ _ R1 (E.mono st1.ex) q fun F2 u H2 y s2 st2 R2 r2 q => ?_
  refine a3 F2 σ H2 ε s2 _ _ R2 (E.mono (st1.trans st2).ex) q fun F3 z H3 y' s3 st3 R3 r3 q => ?_
  split at q
  rotate_left
  · exact q.elim
  rename_i o eo
  rcases dlook_at R3 (r2.mono st3.ex) eo with ⟨v, x, rfl, g, rx⟩ | ⟨rfl, g⟩
  · exact ⟨some v, g, kk _ _ _ _ _ ((st1.trans st2).trans st3) R3 rx q⟩
  · exact ⟨none, g, kk _ _ _ _ _ ((st1.trans st2).trans st3) R3 r3 q⟩
end
end DL
end
section
set_option Elab.async false
set_option linter.all false
set_option maxRecDepth 100000
set_option maxHeartbeats 2000000
namespace L2
open PySem PySem.Spec PyProof.Rows
/-- the pairs of the locked dict at d, each a new tuple -/
def Itit (d : Addr) (o : Obj) (kvs : List (List Key × V)) : It :=
  ⟨fun i H => H d = some (.frz o (.dT kvs)) ∧ i < kvs.length, fun i H x H' => ∃ T k v q, kvs[i]? = some (k, v) ∧ H q = some (.tup (k.map kV)) ∧ x = .ref T ∧ H T = none ∧ H' = upd H T (.tup [.ref q, v]), fun i H => H d = some (.frz o (.dT kvs)) ∧ kvs.length ≤ i⟩
theorem frzT2 {X : Cx} {pins : List (Addr × Obj)} {σ : St} {H : Hp} {s : Shared} {d : Addr} {o : Obj} {kvs : List (List Key × V)} (I : Inv X pins σ H s) (h : H d = some (.frz o (.dT kvs))) :
    (d == sysModules) = false ∧ s.heap.get? d = some o ∧ o.ExactDict ∧ ∃ (es : Array DictEntry) (ep : Nat), o.data = .dict es ep ∧ es.size = kvs.length ∧
      ∀ (i : Nat) (k : List Key) (v : V), kvs[i]? = some (k, v) → ∃ (en : DictEntry) (q : Addr), es[i]? = some en ∧ en.key = .ref q ∧ H q = some (.tup (k.map kV)) ∧ RelV v en.val := by
  obtain ⟨hd, z, hs, xs, pr, o', es, ep, ho, hx, hdt, he, _⟩ := I.hok d _ h
  rw [hd] at ho
  cases ho
  refine ⟨hs, hd, hx, es, ep, hdt, ?_, fun i k v e => ?_⟩
  · have l1 : es.size = xs.length := size_of_entries he
    have l2 : kvs.length = xs.length := Paired.length pr
    omega
  · obtain ⟨b, hb, e1, e2, e3⟩ := paired_get pr e
    have q := entry_at he i
    rw [hb] at q
    exact ⟨_, b.2.1, q, rfl, e2, e3⟩
section
variable {P : Program} {w : World} {K : PySem.W.Frag} {d : Addr} {o : Obj} {es : Array DictEntry} {ep : Nat}
theorem turn_itemsT {kvs : List (List Key × V)} {elts : List Expr} {kk : Nat} {tpos : Pos} (it : Addr) (hod : o.data = .dict es ep) :
    Turn P w K (.Tuple elts kk tpos) (Itit d o kvs) [it] it (fun i h => ∃ ok ov, IsItemIter h it d i kvs.length ep ok ov) where
  mem := by simp
  obj := fun i h st b hb => by
    have e : b = it := by simpa using hb
    subst e
    obtain ⟨ok, ov, e⟩ := st
    exact ⟨_, e, fun v z => nomatch z⟩
  keep := fun i h h' st k => let ⟨ok, ov, e⟩ := st; ⟨ok, ov, k it (by simp) _ e⟩
  item := by
    intro X hP hw hK hc i pins s σ H E I hf st hg
    subst hP hw hK
    obtain ⟨hd, hi⟩ := hg
    obtain ⟨hs, hgd, hx, es', ep', hdt, hsz, ent⟩ := frzT2 I hd
    obtain ⟨rfl, rfl⟩ := dict_ep hod hdt
    obtain ⟨⟨k, v⟩, hkv⟩ : ∃ p, kvs[i]? = some p := ⟨kvs[i], List.getElem?_eq_getElem hi⟩
    obtain ⟨en, q, hen, hkey, hq, hv⟩ := ent i k v hkv
    obtain ⟨ok, ov, he⟩ := st
    rw [← hsz] at he
    have hlt : it < s.heap.objs.size := Heap.lt_size he
    have hi2 : i < es'.size := by rw [hsz]; exact hi
    have hei : es'[i] = en := by
      rw [Array.getElem?_eq_getElem hi2] at hen
      exact Option.some.inj hen
    refine DT.nextI he ⟨o, hgd, hx, hdt⟩ hi2 fun h' ho hT hz hk => ?_
    rw [hei, hkey] at hT
    rw [hei, hkey] at ho
    refine ⟨_, rfl, wpAny_letOwnedTupleGo_items (s := { s with heap := h' }) ho fun h'' he' sb => ?_⟩
    have hT2 : h''.get? s.heap.objs.size = some { cls := .type "tuple", data := .seq #[.ref q, en.val] } := (sb.2 _ (Nat.ne_of_gt hlt)).trans hT
    have new : ObjOk X.prog X.w (upd H s.heap.objs.size (.tup [.ref q, v])) h'' s.heap.objs.size (.tup [.ref q, v]) :=
      ⟨by show 2 ≤ sizeLine; decide, [.ref q, en.val], .cons rfl (.cons hv .nil), ⟨_, hT2, rfl, _, rfl⟩⟩
    have I1 : Inv X pins σ (upd H s.heap.objs.size (.tup [.ref q, v])) { s with heap := h'' } :=
      I.turnedNew (t' := s.toks) (ch := [it]) (fun b ob hb e => (sb.2 b (by simpa using hb)).trans (hk b ob (by simpa using hb) e)) hf (Nat.le_refl _) new
    refine ⟨.ref s.heap.objs.size, _, I1, rfl, ⟨_, k, v, q, hkv, hq, rfl, I.hok.fresh (Nat.le_refl _), rfl⟩, ⟨.ref q, en.val, ?_⟩, fun b hb => ?_⟩
    · rw [← hsz]; exact he'
    · have e : b = it := by simpa using hb
      rw [e, upd_ne (Nat.ne_of_lt hlt)]
      exact (hf it (by simp)).1
  done := by
    intro X hP hw hK hc i pins s σ H E I hf st hg
    subst hP hw hK
    obtain ⟨hd, hi⟩ := hg
    obtain ⟨f0, f1, f2, f3, f4, f5⟩ := hf it (by simp)
    obtain ⟨hs, hgd, hx, es', ep', hdt, hsz, ent⟩ := frzT2 I hd
    obtain ⟨rfl, rfl⟩ := dict_ep hod hdt
    obtain ⟨ok, ov, he⟩ := st
    rw [← hsz] at he
    exact DT.endI (I.ok.hd hc) he ⟨o, hgd, hx, hdt⟩ (by omega) fun h' eb => ⟨rfl, I.turned (t' := s.toks) (fun b ob hb e => eb b ob hb e) f0 f1 f3 f4 f5⟩
  self := fun A i s Q E st h => let ⟨_, _, e⟩ := st; PySem.W.kcp_self e h
end
/-- for .., .. in e.items(), the dict locked -/
def iItemsT (td : TE) : TI := fun σ H R => td σ H fun x H1 => ∃ d o kvs, x = .ref d ∧ H1 d = some (.frz o (.dT kvs)) ∧ R (Itit d o kvs) H1
theorem pi_itemsT {X : Cx} {e : Expr} {td : TE} {apos cpos : Pos} {elts : List Expr} {kk : Nat} {tpos : Pos} (he : PE X e td) (hbase : attributeBase e "items" X.env (eval e X.env) = eval e X.env := by rfl) (hline : (apos.endLine == cpos.line) = true := by rfl) :
    PI X (.Tuple elts kk tpos) (.Call (.Attribute e "items" apos) [] [] cpos) (iItemsT td) := by
  refine ⟨fun pins s σ H R I h => ?_⟩
  refine wpAny_Call_method (T := "dict") (id := "dict.items") hbase rfl hline F.plainAttrs_dict F.slot_dict_items F.type_dict_items (thn (he.run pins s σ H _ I h) fun u s1 ⟨x, H1, I1, rx, d, o, kvs, ex, hd, q⟩ => ?_)
  subst ex
  obtain rfl : u = Value.ref d := rx
  obtain ⟨hs, hgd, hx, es, ep, hdt, hsz, ent⟩ := frzT2 I1 hd
  have raw : DT.Raw s1.heap d es ep := ⟨o, hgd, hx, hdt⟩
  refine ⟨raw.typeIs, fun b z => ?_, ?_⟩
  · cases z
    exact ⟨o, hgd, hx.2.1⟩
  have I2 : Inv X pins σ H1 { s1 with heap := s1.heap.push { cls := .type "dict_items", data := .fields #[.ref d] } } := I1.kept (t' := s1.toks) fun b ob q => Heap.get?_push_of_some _ q
  have fin : wpAny (model X.prog X.w) X.A (pyIter (.ref s1.heap.objs.size)) (PIE X pins σ (.Tuple elts kk tpos) R) X.xe { s1 with heap := s1.heap.push { cls := .type "dict_items", data := .fields #[.ref d] } } := by
    refine DT.iterI (d := d) (es := es) (ep := ep) ⟨_, Heap.get?_push_size _ rfl, rfl, rfl⟩ (raw.push _) (pi_one (tk := s1.toks) I2 _ (turn_itemsT _ hdt) ⟨.none, .none, ?_⟩ q)
    rw [← hsz]
    exact Heap.get?_push_size _ rfl
  show wpAny _ _ (callWith cpos (.builtin "dict.items") [.ref d] [] []) _ X.xe s1
  exact method_meetsIn F.slot_dict_items F.entry_dict_items rfl (PySem.evalArgs_none ⟨rfl, raw.typeIs, F.args_dict_items_1 _, _, DT.meetsItems (es := es) (ep := ep) hs, ⟨raw, fin⟩⟩)
end L2
namespace DL
open PySem PySem.Spec L2 PyProof.Rows
variable [tB : Tb] [gR : Gr]
section
variable {P : Program} {w : World} {K : PySem.W.Frag} {mg : Str → Option Value} {base : Heap} {X : Cx} {N : List Str} {sc fs : Scope} {k : Nat}
/-- the pairs of a dict with tuples of ints as keys -/
def itemsD (kvs : List (List Key × DV)) : List DV := kvs.map fun p => mkT [tupD (p.1.map BS.keyInt), p.2]
theorem src_items {F0 : Hp} {d : Addr} {o : Obj} {ws : List (List Key × V)} {kvs : List (List Key × DV)} (hi : BS.IntKeys kvs) : Src K F0 (Itit d o ws) (itemsD kvs) (fun s => s d = some (.lk o ws kvs)) := fun F H st e R iv => by
  obtain ⟨hw, pr⟩ := R.ok d _ iv
  have hl : ws.length = kvs.length := Paired.length pr
  refine ⟨fun i x hx => ?_, hw, by unfold itemsD; rw [List.length_map, hl]; exact Nat.le_refl _⟩
  unfold itemsD at hx
  rw [List.getElem?_map] at hx
  cases hk : kvs[i]? with
  | none => rw [hk] at hx; cases hx
  | some p =>
    rw [hk] at hx
    cases hx
    have hil : i < kvs.length := (List.getElem?_eq_some_iff.mp hk).1
    refine ⟨⟨hw, by omega⟩, fun v H' ⟨T, kk, u, q, e1, e2, e3, e4, e5⟩ => ?_⟩
    subst e3 e5
    obtain ⟨b, hb, ek, rv⟩ := L2.DX.pget (F := fun (p : List Key × V) (q : List Key × DV) => p.1 = q.1 ∧ RV K F p.2 q.2) pr hk |> fun ⟨y, hy, h1, h2⟩ => (⟨y, hy, h1, h2⟩ : ∃ y, ws[i]? = some y ∧ y.1 = p.1 ∧ RV K F y.2 p.2)
    rw [e1] at hb
    cases hb
    obtain ⟨ns, en⟩ := hi p (List.mem_of_getElem? hk)
    obtain ⟨R1, S1⟩ := ext_tups (bs := [q]) R fun c hc => by rw [List.mem_singleton.mp hc]; exact ⟨_, e2⟩
    have hq : extF F H [q] q = some (.tup (ns.map V.int)) := by
      have ek' : kk = p.1 := ek
      rw [extF_in (List.mem_singleton.mpr rfl), e2, ek', en, BS.kV_inl]
    obtain ⟨F', S2, R2, r2⟩ := pair_src (T := T) (u1 := .ref q) (u2 := u) (x := tupD ns) (y := p.2) R1 e4 (.d (.tup hq (rp_all ns))) (rv.mono S1.ex)
    refine ⟨F', S1.trans S2, R2, ?_⟩
    show RV K F' (V.ref T) (mkT [tupD (p.1.map BS.keyInt), p.2])
    rw [en, BS.keyInts_inl]
    exact r2
/-- .. in e.items(), the dict locked -/
def qiItems (te : TD) : TDi := fun ε st Q => te ε st fun x s1 => match x with
  | .r a => (match s1 a with
    | some (.lk o ws kvs) => BS.IntKeys kvs ∧ Q (itemsD kvs) (fun s => s a = some (.lk o ws kvs)) s1
    | _ => False)
  | _ => False
theorem di_items {e : Expr} {te : TD} {apos cpos : Pos} {elts : List Expr} {kk : Nat} {tpos : Pos} (h : DE X e te) (hbase : attributeBase e "items" X.env (eval e X.env) = eval e X.env := by rfl) (hline : (apos.endLine == cpos.line) = true := by rfl) :
    DI X (.Tuple elts kk tpos) (.Call (.Attribute e "items" apos) [] [] cpos) (qiItems te) := by
  obtain ⟨t1, p1, a1⟩ := h
  refine ⟨⟨_, pi_itemsT p1 hbase hline, fun F σ H ε st Qd R' R E h kk => ?_⟩⟩
  refine a1 F σ H ε st _ _ R E h fun F1 v H1 x s1 t1 R1 r q => ?_
  split at q
  rotate_left
  · exact q.elim
  rename_i a
  split at q
  rotate_left
  · exact q.elim
  rename_i o ws kvs es
  cases r
  obtain ⟨hw, pr⟩ := R1.ok a _ es
  exact ⟨a, o, ws, rfl, hw, kk F1 _ H1 _ _ s1 t1 R1 (src_items q.1) q.2⟩
/-- the expression runs while the dict in slot i is locked -/
def qLockE (i : Nat) (te : TD) : TD := fun ε st Q => match ε[i]? with
  | some (some (.r a)) => (match st a with
    | some (.dT kvs) => ∀ o ws, te ε (up st a (.lk o ws kvs)) fun v s1 => s1 a = some (.lk o ws kvs) ∧ Q v (up s1 a (.dT kvs))
    | _ => False)
  | _ => False
theorem lock_step {F H : Hp} {st : Sto} {a : Addr} {kvs : List (List Key × DV)} {ws : List (List Key × V)} (R : Rs K F H st) (e : st a = some (.dT kvs)) (hw : H a = some (.dT ws)) (pr : PR K F ws kvs) (o : Obj) :
    Rs K F (upd H a (.frz o (.dT ws))) (up st a (.lk o ws kvs)) ∧ Step F H st F (upd H a (.frz o (.dT ws))) (up st a (.lk o ws kvs)) := R.put (o := .frz o (.dT ws)) (m := .lk o ws kvs) e ⟨upd_same, pr⟩
theorem unlock_step {F H : Hp} {st : Sto} {a : Addr} {kvs : List (List Key × DV)} {ws : List (List Key × V)} {o : Obj} (R : Rs K F H st) (e : st a = some (.lk o ws kvs)) :
    H a = some (.frz o (.dT ws)) ∧ Rs K F (upd H a (.dT ws)) (up st a (.dT kvs)) ∧ Step F H st F (upd H a (.dT ws)) (up st a (.dT kvs)) := by
  obtain ⟨hw, pr⟩ := R.ok a _ e
  exact ⟨hw, R.put (o := .dT ws) (m := .dT kvs) e ⟨ws, upd_same, pr⟩⟩
theorem de_lock {e : Expr} {te : TD} (i : Nat) (h : DE X e te) : DE X e (qLockE i te) := by
  obtain ⟨t1, p1, a1⟩ := h
  refine ⟨⟨_, pe_lock p1, fun F σ H ε st Qd Q R E h kk => ?_⟩⟩
  unfold qLockE at h
  split at h
  rotate_left
  · exact h.elim
  rename_i a ea
  split at h
  rotate_left
  · exact h.elim
  rename_i kvs es
  obtain ⟨ws, hw, pr⟩ := R.ok a _ es
  refine ⟨a, .dT ws, hw, trivial, fun od => ?_⟩
  obtain ⟨R1, S1⟩ := lock_step R es hw pr od
  refine a1 F σ _ ε _ _ _ R1 E (h od ws) fun F1 v H1 x s1 t1 R2 r q => ?_
  obtain ⟨hf, R3, S3⟩ := unlock_step R2 q.1
  exact ⟨hf, kk F1 v _ x _ ((S1.trans t1).trans S3) R3 r q.2⟩
/-- the statement runs while the dict in slot i is locked -/
def qLockS (i : Nat) (t : TDs) : TDs := fun D ε st => match ε[i]? with
  | some (some (.r a)) => (match st a with
    | some (.dT kvs) => ∀ o ws, t { nx := fun ε1 s1 => s1 a = some (.lk o ws kvs) ∧ D.nx ε1 (up s1 a (.dT kvs)), rt := fun x s1 => s1 a = some (.lk o ws kvs) ∧ D.rt x (up s1 a (.dT kvs)), bk := fun ε1 s1 => s1 a = some (.lk o ws kvs) ∧ D.bk ε1 (up s1 a (.dT kvs)), ct := fun ε1 s1 => s1 a = some (.lk o ws kvs) ∧ D.ct ε1 (up s1 a (.dT kvs)) } ε (up st a (.lk o ws kvs))
    | _ => False)
  | _ => False
theorem ds_lock {s : Stmt} {t : TDs} (i : Nat) (h : DS X s t) : DS X s (qLockS i t) := by
  obtain ⟨t1, p1, a1⟩ := h
  refine ⟨⟨_, ps_lock p1, fun F σ H ε st Dd D R E h kk => ?_⟩⟩
  unfold qLockS at h
  split at h
  rotate_left
  · exact h.elim
  rename_i a ea
  split at h
  rotate_left
  · exact h.elim
  rename_i kvs es
  obtain ⟨ws, hw, pr⟩ := R.ok a _ es
  refine ⟨a, .dT ws, hw, trivial, fun od => ?_⟩
  obtain ⟨R1, S1⟩ := lock_step R es hw pr od
  refine a1 F σ _ ε _ _ _ R1 E (h od ws) ⟨fun F1 σ1 H1 ε1 s1 t1 R2 E2 q => ?_, fun F1 v H1 x s1 t1 R2 r q => ?_, fun F1 σ1 H1 ε1 s1 t1 R2 E2 q => ?_, fun F1 σ1 H1 ε1 s1 t1 R2 E2 q => ?_⟩
  · obtain ⟨hf, R3, S3⟩ := unlock_step R2 q.1
    exact ⟨hf, kk.nx F1 σ1 _ ε1 _ ((S1.trans t1).trans S3) R3 E2 q.2⟩
  · obtain ⟨hf, R3, S3⟩ := unlock_step R2 q.1
    exact ⟨hf, kk.rt F1 v _ x _ ((S1.trans t1).trans S3) R3 r q.2⟩
  · obtain ⟨hf, R3, S3⟩ := unlock_step R2 q.1
    exact ⟨hf, kk.bk F1 σ1 _ ε1 _ ((S1.trans t1).trans S3) R3 E2 q.2⟩
  · obtain ⟨hf, R3, S3⟩ := unlock_step R2 q.1
    exact ⟨hf, kk.ct F1 σ1 _ ε1 _ ((S1.trans t1).trans S3) R3 E2 q.2⟩
end
end DL
end
section
set_option Elab.async false
set_option linter.all false
set_option maxRecDepth 100000
set_option maxHeartbeats 2000000
namespace DTK
open PySem PySem.W PySem.Calls PyProof.Rows PyProof.V PySem.Spec
section
variable {prog : Program} {w : World} {A : Around} {E : Value → Shared → Prop} {s : Shared} {r d : Addr} {es : Array DictEntry} {ep : Nat}
theorem listItems {Q : Value → Shared → Prop} (hh : A.handled = none) (hv : s.heap.IsItemsView r d) (hm : DT.Raw s.heap d es ep) (hn : es.size ≤ sizeLine)
    (hQ : ∀ h' tk acc c as, (∀ b o, s.heap.get? b = some o → h'.get? b = some o) → h'.get? s.heap.objs.size = some { cls := .type "list", dict := none, data := .seq acc c, slots := #[] } → as.length = es.size → DT.Made es s.heap.objs.size h' as →
      acc.toList = as.map Value.ref → Q (.ref s.heap.objs.size) { s with heap := h', toks := tk }) : wpAny (model prog w) A (call (.type "list") [.ref r]) Q E s := by
  have hr : r < s.heap.objs.size := let ⟨_, ho, _⟩ := hv; Heap.lt_size ho
  have hd : d < s.heap.objs.size := hm.lt
  refine callType_codes (Q₁ := fun obj s₁ => obj = .ref s.heap.objs.size ∧ s₁ = { s with heap := s.heap.push { cls := .type "list", data := .seq #[] } }) PySem.F.called_list (PySem.F.typeCall_list_1 _) PySem.F.entry_list_init
    (code_list_new _ ⟨rfl, rfl⟩) fun obj s₁ h₁ => ?_
  obtain ⟨rfl, rfl⟩ := h₁
  have hS : (s.heap.push { cls := .type "list", data := .seq #[] }).get? s.heap.objs.size = some { cls := .type "list", data := .seq #[] } := Heap.get?_push_size _ rfl
  refine ⟨⟨_, hS, rfl⟩, PySem.F.args_list_init_2 _ _, ?_⟩
  show wpAny _ _ (do let old ← Builtin.List.listItems (.ref s.heap.objs.size); Builtin.List.listUpdate (.ref s.heap.objs.size) (fun _ => #[]); letGo old.toList.reverse; Builtin.List.listExtendWith (.ref s.heap.objs.size) (.ref r) .none) _ _ _
  refine wpAny_bind ?_
  unfold Builtin.List.listItems
  refine wpAny_bind (wpAny_seqItems hS rfl (wpAny_pure ?_))
  show wpAny _ _ (updateSeq s.heap.objs.size (fun _ => #[]) >>= fun _ => letGo (#[] : Array Value).toList.reverse >>= fun _ => Builtin.List.listExtendWith (.ref s.heap.objs.size) (.ref r) .none) _ _ _
  refine wpAny_bind (wpAny_updateSeq hS rfl ?_)
  have hS₂ := Heap.get?_update_self (Obj.mapSeq (fun _ => (#[] : Array Value))) hS rfl
  have oth : ∀ b o, s.heap.get? b = some o → ((s.heap.push { cls := .type "list", data := .seq #[] }).update s.heap.objs.size (Obj.mapSeq (fun _ => (#[] : Array Value)))).get? b = some o :=
    fun b o e => (Heap.get?_update_other _ _ (Ne.symm (Nat.ne_of_lt (Heap.lt_size e)))).trans (Heap.get?_push_of_some _ e)
  obtain ⟨c0, e0⟩ : ∃ c0, (Obj.mapSeq (fun _ => (#[] : Array Value)) { cls := .type "list", data := .seq #[] } : Obj) = { cls := .type "list", data := .seq #[] c0 } := ⟨_, rfl⟩
  rw [e0] at hS₂
  refine wpAny_bind (wpAny_letGo ?_)
  refine DT.extI (prog := prog) (w := w) (A := A.in1) (R := wants (fun r s₂ => r = Value.none ∧ Q (.ref s.heap.objs.size) s₂) E) (s := { s with heap := (s.heap.push { cls := .type "list", data := .seq #[] }).update s.heap.objs.size (Obj.mapSeq (fun _ => (#[] : Array Value))) }) (es := es) (ep := ep) hh (let ⟨o, ho, x⟩ := hv; ⟨o, oth _ _ ho, x⟩) (hm.at' fun o e => oth _ _ e) s.heap.objs.size (Nat.ne_of_gt hr) (Nat.ne_of_lt hd) .none c0 hS₂ (fun h' tk acc c as hk hS' hl hG hacc => ?_) hn
  refine ⟨rfl, hQ h' tk acc c as (fun b o e => hk b o (Nat.ne_of_lt (Heap.lt_size e)) (oth b o e)) hS' hl (hG.low ?_) hacc⟩
  exact Nat.le_of_lt (Heap.lt_size hS₂)
end
end DTK
namespace L2.DX
open PySem PySem.Spec PyProof.Rows
section
variable {X : Cx}
/-- list(d.items()) from the view -/
def rListIt : List V → Hp → VK → Prop := fun vs H Q => ∃ (p a : Addr) (kvs : List (List L2.Key × V)), vs = [.ref p] ∧ H p = some (itemsO p a) ∧ H a = some (.dT kvs) ∧
  ∀ (l : Addr) (as : List Addr) (H2 : Hp), H l = none → (∀ b o, H b = some o → H2 b = some o) → H2 l = some (.lst (as.map V.ref)) → l ∉ as → as.length = kvs.length →
    (∀ (j : Nat) (b : Addr), as[j]? = some b → H b = none ∧ ∃ (k : List L2.Key) (v : V) (q : Addr), kvs[j]? = some (k, v) ∧ H q = some (.tup (k.map kV)) ∧ H2 b = some (.tup [.ref q, v])) → Q (.ref l) H2
theorem cr_listItems (hc : X.calm = true) : CallR X (.type "list") rListIt := by
  intro pins s σ H xs us Q I r h
  obtain ⟨p, a, kvs, rfl, hp, ha, q⟩ := h
  obtain rfl := Vals.ref1 r
  have view : s.heap.IsItemsView p a := (show ObjOk X.prog X.w H s.heap p (itemsO p a) from I.hok p _ hp).1
  obtain ⟨z, hd, xs', rel, o, es, ep, ho, hx, hdat, hes, his, hn⟩ := dt_of I.hok ha
  have l1 : kvs.length = xs'.length := Paired.length rel
  have l2 : es.size = xs'.length := size_of_entries hes
  have hh : X.A.handled = none := I.ok.hd hc
  refine DTK.listItems (es := es) (ep := ep) hh view ⟨o, ho, hx, hdat⟩ (by omega) fun h' tk acc c as hk hS' hl hG hacc => ?_
  have lak : as.length = kvs.length := by omega
  have nd : as.Nodup := List.Pairwise.imp (fun h => Nat.ne_of_lt h) hG.rise
  have pr : ∀ (j : Nat) (b : Addr), as[j]? = some b → ∃ (k : List L2.Key) (v : V) (u : Value) (q : Addr), kvs[j]? = some (k, v) ∧ RelV v u ∧ H q = some (.tup (k.map kV)) ∧ h'.get? b = some { cls := .type "tuple", data := .seq #[Value.ref q, u] } := by
    intro j b hj
    obtain ⟨en, he, hg⟩ := hG.pairs j b hj
    rw [entry_at hes j] at he
    cases hxj : xs'[j]? with
    | none =>
      rw [hxj] at he
      exact nomatch (show (none : Option DictEntry) = some en from he)
    | some x =>
      rw [hxj] at he
      have een : entryOfKey (tupleKind (mixKind X.prog X.w)) x = en := Option.some.inj he
      obtain ⟨e0, he0, r1, r2, r3⟩ := pget rel hxj
      refine ⟨e0.1, e0.2, x.2.2, x.2.1, he0, r3, r2, ?_⟩
      rw [hg, ← een]
      all_goals rfl
  have hfr : ∀ b ∈ as, s.heap.objs.size < b := fun b hb => hG.above b hb
  have hl0 : H s.heap.objs.size = none := I.hok.fresh (Nat.le_refl _)
  have rv : Vals (as.map V.ref) acc.toList := by rw [hacc]; exact vals_refs _
  have I1 : Inv X pins σ (upd H s.heap.objs.size (.lst (as.map V.ref))) { s with heap := h', toks := tk } := I.laid (t' := tk) (o := .lst (as.map V.ref)) hk (Nat.le_refl _) ⟨by rw [List.length_map]; omega, acc.toList, c, rv, by rw [Array.toArray_toList]; exact hS'⟩
  obtain ⟨H2, I2, g, tq⟩ := takeT (P := fun b vs => ∃ (j : Nat) (k : List L2.Key) (v : V) (q : Addr), as[j]? = some b ∧ kvs[j]? = some (k, v) ∧ H q = some (.tup (k.map kV)) ∧ vs = [.ref q, v]) I as _ I1 nd fun b hb => by
    obtain ⟨j, hj⟩ := List.getElem?_of_mem hb
    obtain ⟨k, v, u, q', hkv, ru, hq, hg⟩ := pr j b hj
    have hlt := hfr b hb
    refine ⟨Nat.le_of_lt hlt, by rw [upd_ne (Nat.ne_of_gt hlt)]; exact I.hok.fresh (Nat.le_of_lt hlt), [.ref q', v], ⟨j, k, v, q', hj, hkv, hq, rfl⟩, fun H2 => ⟨by show 2 ≤ sizeLine; decide, [.ref q', u], .cons rfl (.cons ru .nil), ⟨_, hg, rfl, _, rfl⟩⟩⟩
  refine ⟨.ref s.heap.objs.size, H2, I2, rfl, q _ as H2 hl0 (fun b o e => g b o (by rw [upd_ne (ne_of_none e hl0)]; exact e)) (g _ _ upd_same) (fun hm => Nat.lt_irrefl _ (hfr _ hm)) lak fun j b hj => ?_⟩
  have hb := List.mem_of_getElem? hj
  refine ⟨I.hok.fresh (Nat.le_of_lt (hfr b hb)), ?_⟩
  obtain ⟨vs, ⟨j', k, v, q', hj', hkv, hq, rfl⟩, e⟩ := tq b hb
  have : j' = j := (List.getElem?_inj (List.getElem?_eq_some_iff.mp hj').1 nd).mp (hj'.trans hj.symm)
  subst this
  exact ⟨k, v, q', hkv, hq, e⟩
end
end L2.DX
namespace DL
open PySem PySem.Spec L2 PyProof.Rows
variable [tB : Tb] [gR : Gr]
section
variable {P : Program} {w : World} {K : PySem.W.Frag} {mg : Str → Option Value} {base : Heap} {X : Cx} {N : List Str} {sc fs : Scope} {k : Nat}
/-- the heap has grown, tuples come into sight -/
theorem grow_tups {F H H2 : Hp} {st : Sto} {bs : List Addr} (R : Rs K F H st) (g : ∀ b o, H b = some o → H2 b = some o) (hb : ∀ b ∈ bs, ∃ ts, H2 b = some (.tup ts) ∧ (H b = none ∨ H b = some (.tup ts))) : Rs K (extF F H2 bs) H2 st ∧ Step F H st (extF F H2 bs) H2 st := by
  have ex : ∀ a o, F a = some o → extF F H2 bs a = some o := fun a o h => by
    unfold extF
    split
    · exact g a o (R.sub a o h).1
    · exact h
  have fn : ∀ a o, extF F H2 bs a = some o → F a ≠ none ∨ H a = none ∨ st a ≠ none ∨ ∃ ts, H a = some (.tup ts) := fun a o h => by
    unfold extF at h
    split at h
    · rename_i hm
      obtain ⟨ts, e, e2⟩ := hb a hm
      rcases e2 with e2 | e2
      · exact .inr (.inl e2)
      · exact .inr (.inr (.inr ⟨ts, e2⟩))
    · exact .inl (by rw [h]; exact fun z => nomatch z)
  suffices h : Rs0 K (extF F H2 bs) H2 st ∧ Step F H st (extF F H2 bs) H2 st from ⟨R.by h.1 h.2, h.2⟩
  refine ⟨⟨fun a o h => ?_, fun a m h => ?_, R.tb.keep (fun a o h k => ⟨g a o h, k⟩) fn⟩, Step.of ex (fun a o h k => ⟨g a o h, k⟩) fn⟩
  · unfold extF at h
    split at h
    · rename_i hm
      refine ⟨h, ?_⟩
      obtain ⟨ts, e, e2⟩ := hb a hm
      rcases e2 with e2 | e2
      · exact (R.free e2).2
      · cases es : st a with
        | none => rfl
        | some m =>
          exfalso
          have := R.ok a m es
          cases m with
          | lst xs => obtain ⟨vs, e3, _⟩ := this; rw [e2] at e3; cases e3
          | dK xs => obtain ⟨vs, e3, _⟩ := this; rw [e2] at e3; cases e3
          | dT xs => obtain ⟨vs, e3, _⟩ := this; rw [e2] at e3; cases e3
          | ins C fs => obtain ⟨dx, vs, e3, _⟩ := this; rw [e2] at e3; cases e3
          | lk o ws kvs => obtain ⟨e3, _⟩ := this; rw [e2] at e3; cases e3
          | xd xs => obtain ⟨vs, e3, _⟩ := this; rw [e2] at e3; cases e3
    · exact ⟨g a o (R.sub a o h).1, (R.sub a o h).2⟩
  · obtain ⟨o, e⟩ := (R.ok a m h).some
    exact MOk.mono ex ((g a o e).trans e.symm) (R.ok a m h)
/-- list(e.items()) -/
def qListItems (m : Bool) (te : TD) : TD := fun ε st Q => te ε st fun x s1 => match x with
  | .r a => (match s1 a with
    | some (.dT kvs) => BS.IntKeys kvs ∧ newL m (itemsD kvs) s1 Q
    | _ => False)
  | _ => False
theorem pairs_rvs {F H H2 : Hp} : ∀ {as : List Addr} {ws : List (List Key × V)} {kvs : List (List Key × DV)}, PR K F ws kvs → BS.IntKeys kvs → as.length = ws.length →
    (∀ (j : Nat) (b : Addr), as[j]? = some b → ∃ (kk : List Key) (v : V) (q : Addr), ws[j]? = some (kk, v) ∧ F q = some (.tup (kk.map kV)) ∧ F b = some (.tup [.ref q, v])) → RVs K F (as.map V.ref) (itemsD kvs)
  | [], [], [], .nil, _, _, _ => .nil
  | [], _ :: _, _ :: _, .cons _ _, _, hl, _ => nomatch hl
  | _ :: _, [], [], .nil, _, hl, _ => nomatch hl
  | a :: as, x :: ws, y :: kvs, .cons h t, hi, hl, hp => by
    obtain ⟨kk, v, q, e1, e2, e3⟩ := hp 0 a rfl
    cases e1
    obtain ⟨ns, en⟩ := hi y List.mem_cons_self
    have ek : kk = y.1 := h.1
    refine .cons ?_ (pairs_rvs (H := H) (H2 := H2) t (fun p hp => hi p (List.mem_cons_of_mem _ hp)) (by simpa using hl) fun j b hj => hp (j + 1) b hj)
    show RV K F (.ref a) (mkT [tupD (y.1.map BS.keyInt), y.2])
    rw [en, BS.keyInts_inl]
    rw [ek, en, BS.kV_inl] at e2
    exact mkT_rv e3 (.cons (.d (.tup e2 (rp_all ns))) (.cons h.2 .nil))
theorem de_listItems {e : Expr} {te : TD} {p apos cpos pos : Pos} (m : Bool) (c : Cok P w K mg base X N sc fs k) (hg : glB sc "list" = true) (hm : mg "list" = none) (h : DE X e te)
    (hbase : attributeBase e "items" X.env (eval e X.env) = eval e X.env := by rfl) (hline : (apos.endLine == cpos.line) = true := by rfl)
    (hs : starEach [.Call (.Attribute e "items" apos) [] [] cpos] X.env = (false, eval (.Call (.Attribute e "items" apos) [] [] cpos) X.env) :: starEach [] X.env := by rfl) :
    DE X (.Call (.Name "list" p) [.Call (.Attribute e "items" apos) [] [] cpos] [] pos) (qListItems m te) := by
  obtain ⟨t1, p1, a1⟩ := h
  have g := gl_of c hg
  refine ⟨⟨_, pe_callTy (L2.DX.cr_listItems c.calm) g.1 (by rw [c.hmg]; exact hm) bt_list (pa_cons (pe_bm0 F.plainAttrs_dict F.slot_dict_items F.type_dict_items L2.DX.mt_itemsT p1 hbase hline) pa_nil hs) g.2.1 g.2.2 hs rfl, fun F σ H ε st Qd Q R E h kk => ?_⟩⟩
  refine a1 F σ H ε st _ _ R E h fun F1 v H1 x s1 t1 R1 r q => ?_
  split at q
  rotate_left
  · exact q.elim
  rename_i a
  split at q
  rotate_left
  · exact q.elim
  rename_i kvs es
  obtain ⟨hi, q⟩ := q
  cases r
  obtain ⟨ws, hw, pr⟩ := R1.ok a _ es
  have ek := pr_keys pr
  refine ⟨?_, a, ws, rfl, rfl, hw, fun pv hpv => ?_⟩
  · exact .inr (.inr (.inl ⟨rfl, .inr ⟨ws, hw⟩⟩))
  obtain ⟨R2, S2⟩ := R1.hide (o := L2.DX.itemsO pv a) hpv
  refine ⟨pv, a, ws, rfl, upd_same, by rw [upd_ne (ne_of_none hw hpv)]; exact hw, fun l as H2 hl g2 hl2 hla hlen hp => ?_⟩
  have hws : ∀ {qq : Addr} {kk : List Key}, upd H1 pv (L2.DX.itemsO pv a) qq = some (.tup (kk.map kV)) → H2 qq = some (.tup (kk.map kV)) := fun h => g2 _ _ h
  let qs : List Addr := as.filterMap fun b => match H2 b with | some (.tup (.ref q :: _)) => some q | _ => none
  have hqs : ∀ qq ∈ qs, ∃ (kk : List Key), upd H1 pv (L2.DX.itemsO pv a) qq = some (.tup (kk.map kV)) := fun qq hq => by
    obtain ⟨b, hb, e⟩ := List.mem_filterMap.mp hq
    obtain ⟨j, hj⟩ := List.getElem?_of_mem hb
    obtain ⟨_, kk, v, q', e1, e2, e3⟩ := hp j b hj
    rw [e3] at e
    cases e
    exact ⟨kk, e2⟩
  obtain ⟨R3, S3⟩ := grow_tups (bs := as ++ qs) R2 g2 fun b hb => by
    rcases List.mem_append.mp hb with hb | hb
    · obtain ⟨j, hj⟩ := List.getElem?_of_mem hb
      obtain ⟨h0, kk, v, q', e1, e2, e3⟩ := hp j b hj
      exact ⟨_, e3, .inl h0⟩
    · obtain ⟨kk, e⟩ := hqs b hb
      exact ⟨_, g2 _ _ e, .inr e⟩
  have hlp : l ≠ pv := fun z => by rw [z, upd_same] at hl; cases hl
  have hl1 : H1 l = none := by rw [upd_ne hlp] at hl; exact hl
  have hlq : l ∉ qs := fun hm => by
    obtain ⟨kk', e⟩ := hqs l hm
    rw [hl] at e
    cases e
  have f0 : extF F1 H2 (as ++ qs) l = none := by
    unfold extF
    rw [if_neg fun hm => (List.mem_append.mp hm).elim hla hlq]
    exact (R2.free hl).1
  refine seen_lst R1 (S2.trans S3) hl1 R3 hl2 f0 (R2.free hl).2 (pairs_rvs (H := H1) (H2 := H2) (Paired.mapP pr fun _ _ z => ⟨z.1, RV.mono (S2.trans S3).ex z.2⟩) hi hlen fun j b hj => ?_) q (kk.step t1)
  obtain ⟨h0, kk', v, q', e1, e2, e3⟩ := hp j b hj
  have hb := List.mem_of_getElem? hj
  have hqm : q' ∈ qs := List.mem_filterMap.mpr ⟨b, hb, by rw [e3]⟩
  refine ⟨kk', v, q', e1, ?_, ?_⟩
  · rw [extF_in (List.mem_append_right _ hqm)]
    exact g2 _ _ e2
  · rw [extF_in (List.mem_append_left _ hb)]
    exact e3
end
end DL
end
section
set_option Elab.async false
set_option linter.all false
set_option maxRecDepth 100000
set_option maxHeartbeats 2000000
namespace DL
open PySem PySem.Spec L2 PyProof.Rows
variable [tB : Tb] [gR : Gr]
section
variable {P : Program} {w : World} {K : PySem.W.Frag} {mg : Str → Option Value} {base : Heap} {X : Cx} {N : List Str} {sc fs : Scope} {k : Nat}
/-- xs.pop() -/
def qPop (to : TD) : TD := fun ε st Q => to ε st fun x s1 => match x with
  | .r a => ∃ xs y, s1 a = some (.lst xs) ∧ xs[xs.length - 1]? = some y ∧ Q y (up s1 a (.lst xs.dropLast))
  | _ => False
theorem rvs_dropLast {F : Hp} : ∀ {vs : List V} {xs : List DV}, RVs K F vs xs → RVs K F vs.dropLast xs.dropLast
  | _, _, .nil => .nil
  | _, _, .cons r .nil => .nil
  | _ :: _ :: _, _ :: _ :: _, .cons r (.cons r2 s) => .cons r (rvs_dropLast (.cons r2 s))
theorem de_pop {o : Expr} {to : TD} {apos cpos : Pos} (ho : DE X o to) (hbase : attributeBase o "pop" X.env (eval o X.env) = eval o X.env := by rfl)
    (hline : (apos.endLine == cpos.line) = true := by rfl) : DE X (.Call (.Attribute o "pop" apos) [] [] cpos) (qPop to) := by
  obtain ⟨t1, p1, a1⟩ := ho
  refine ⟨⟨_, pe_bm0 PySem.F.plainAttrs_list PySem.F.slot_list_pop PySem.F.type_list_pop mt_pop p1 hbase hline, fun F σ H ε st Qd Q R E h kk => ?_⟩⟩
  refine a1 F σ H ε st _ _ R E h fun F1 v H1 x s1 st1 R1 r q => ?_
  split at q
  · cases r
    rename_i a
    obtain ⟨xs, y, ex, hy, q⟩ := q
    obtain ⟨vs, hv, s⟩ := R1.ok _ _ ex
    have hlen := s.length
    obtain ⟨u, hu, ru⟩ := s.get' hy
    obtain ⟨R3, t3⟩ := R1.put (o := .lst vs.dropLast) (m := .lst xs.dropLast) ex ⟨_, upd_same, rvs_dropLast s⟩
    exact ⟨Or.inl ⟨rfl, _, SqL.of hv⟩, a, vs, u, rfl, rfl, hv, by rw [hlen]; exact hu, kk F1 _ _ y _ (st1.trans t3) R3 (ru.mono fun _ _ h => h) q⟩
  · exact q.elim
def keyPD : Key → DV
  | .inl i => .d (.int i)
  | .inr s => .d (.str s)
theorem key_rvs {F : Hp} : ∀ ks : List Key, RVs K F (ks.map kV) (ks.map keyPD)
  | [] => .nil
  | .inl i :: r => .cons (.d (.int i)) (key_rvs r)
  | .inr s :: r => .cons (.d (.str s)) (key_rvs r)
/-- list(d), scalar keys -/
def qListDK (m : Bool) : RLD := fun xs st Q => match xs with
  | [.r a] => (match st a with
    | some (.dK kvs) => newL m (kvs.map fun kv => keyPD kv.1) st Q
    | _ => False)
  | _ => False
theorem c_listDK (m : Bool) (hc : X.calm = true) : ∃ r', CallR X (.type "list") r' ∧ SL X.K r' (qListDK m) := by
  refine ⟨_, call_list_dK hc, ?_⟩
  intro F H st vs xs Qd Q R rv h kk
  unfold qListDK at h
  split at h
  rotate_left
  · exact h.elim
  rename_i a
  split at h
  rotate_left
  · exact h.elim
  rename_i kvs e
  obtain ⟨v, rfl, r⟩ := rvs1 rv
  cases r
  obtain ⟨ws, hw, pr⟩ := R.ok a _ e
  have ek := pr_keys pr
  refine ⟨a, ws, rfl, hw, fun p hp => ?_⟩
  have e1 : (ws.map fun kv => kV kv.1) = (kvs.map (·.1)).map kV := by rw [← ek, List.map_map]; rfl
  have e2 : (kvs.map fun kv => keyPD kv.1) = (kvs.map (·.1)).map keyPD := by rw [List.map_map]; rfl
  rw [e1]
  rw [e2] at h
  exact new_lst R (key_rvs _) hp h kk
end
end DL
end
section
set_option Elab.async false
set_option linter.all false
set_option maxRecDepth 100000
set_option maxHeartbeats 2000000
namespace DL
open PySem PySem.Spec L2 PyProof.Rows
variable [tB : Tb] [gR : Gr]
section
variable {P : Program} {w : World} {K : PySem.W.Frag} {mg : Str → Option Value} {base : Heap} {X : Cx} {N : List Str} {sc fs : Scope} {k : Nat}
def maxOr (d : Int) : List Int → Int
  | [] => d
  | n :: r => r.foldl max n
def rMaxDf (K : PySem.W.Frag) : List V → List V → Hp → VK → Prop := fun vs zs H Q => ∃ (a : Addr) (ns : List Int) (d : Int), vs = [V.ref a] ∧ zs = [V.int d] ∧ SqL K H a (ns.map V.int) ∧ Q (.int (maxOr d ns)) H
theorem cr_maxDf (hc : X.calm = true) (hu : X.A.units + 64 < cLine) : CallRK X (.builtin "max") [Str.ofString "default"] (rMaxDf X.K) := by
  intro pins s σ H vs us zs ws Q I r rz h
  obtain ⟨a, ns, d, rfl, rfl, hs, q⟩ := h
  rw [Vals.ref1 r]
  obtain ⟨u, rfl, ru⟩ := rz.one
  obtain ⟨its, rv, hl, _⟩ := I.list hs
  have fin : ∀ (v : Value) h' tk, RelV (.int (maxOr d ns)) v → (∀ b o, s.heap.get? b = some o → h'.get? b = some o) → ∃ x H', Inv X pins σ H' { s with heap := h', toks := tk } ∧ RelV x v ∧ Q x H' := fun v h' tk hr hk => ⟨.int _, H, I.kept fun b o e => hk b o e, hr, q⟩
  refine PySem.W.max_list_default (xs := ns.map .int) (I.ok.hd hc) hl.isList (readsAll_of rv.ints) (alike_ints ns) (by rw [dep_ints]; omega) (fun e h' tk hk => ?_) fun y ys i v h' tk bs e _ hr hk => ?_
  · have : ns = [] := List.map_eq_nil_iff.mp e
    subst this
    exact fin u h' tk ru hk
  · cases ns with
    | nil => cases e
    | cons n r =>
      rw [List.map_cons] at e
      cases e
      rw [PySem.W.maxD_ints] at hr
      cases hr with
      | int _ t => exact fin _ h' tk ⟨t, rfl⟩ hk
/-- max(e, default=d) -/
def qMaxDf (te td : TD) : TD := fun ε st Q => te ε st fun x s1 => td ε s1 fun y s2 => match y, litems s2 x with
  | .d (.int d), some l => (match dints l with
    | some ns => Q (.d (.int (maxOr d ns))) s2
    | none => False)
  | _, _ => False
theorem de_maxDf {e f : Expr} {te td : TD} {p pos kpos : Pos} (c : Cok P w K mg base X N sc fs k) (hg : glB sc "max" = true) (hm : mg "max" = none) (he : DE X e te) (hf : DE X f td)
    (hs : starEach [e] X.env = (false, eval e X.env) :: starEach [] X.env := by rfl) (h1 : backTo pos (starEach [e] X.env) = (false, eval e X.env) :: backTo pos (starEach [] X.env) := by rfl) (h2 : (backTo pos (starEach [e] X.env)).any (·.1) = false := by rfl)
    (h3 : (backToKw pos (keywordEach [⟨some (Str.ofString "default"), f, kpos⟩] X.env)).all (·.1.isSome) = true := by rfl) (h4 : (backToKw pos (keywordEach [⟨some (Str.ofString "default"), f, kpos⟩] X.env)).any (·.1.isNone) = false := by rfl)
    (h5 : (backToKw pos (keywordEach [⟨some (Str.ofString "default"), f, kpos⟩] X.env)).filterMap (·.1) = [Str.ofString "default"] := by rfl) :
    DE X (.Call (.Name "max" p) [e] [⟨some (Str.ofString "default"), f, kpos⟩] pos) (qMaxDf te td) := by
  obtain ⟨t1, p1, a1⟩ := he
  obtain ⟨t2, p2, a2⟩ := hf
  have g := gl_of c hg
  refine ⟨⟨_, pe_callBK (cr_maxDf c.calm c.hu65) g.1 (by rw [c.hmg]; exact hm) bb_max (pa_cons p1 pa_nil hs) (pk_cons p2 pk_nil) g.2.1 g.2.2 h1 h2 h3 h4 h5, fun F σ H ε st Qd Q R E h kk => ?_⟩⟩
  refine a1 F σ H ε st _ _ R E h fun F1 v H1 x s1 st1 R1 r1 q => ?_
  refine a2 F1 σ H1 ε s1 _ _ R1 (E.mono st1.ex) q fun F2 u H2 y s2 st2 R2 r2 q => ?_
  split at q
  rotate_left
  · exact q.elim
  rename_i d l el
  split at q
  rotate_left
  · exact q.elim
  rename_i ns en
  obtain ⟨a, ys, rfl, hq, s⟩ := litems_rv R2 (r1.mono st2.ex) el
  obtain ⟨e3, _⟩ := dints_rvs s en
  subst e3
  have e4 := rv_int r2
  subst e4
  exact ⟨a, ns, d, rfl, rfl, hq, kk F2 _ _ _ _ (st1.trans st2) R2 (.d (.int _)) q⟩
end
end DL
end
section
set_option Elab.async false
set_option linter.all false
set_option maxRecDepth 100000
namespace RD
open PySem L2 DL
/-- _law_begun(script, k) slots: 0=script 1=k 2=cells 3=great 4=seed 5=cell -/
def rd_law_begun : TDs :=
  (qSeq (qAsg (qOp (qAdd false) (qSl false (qv 0) (qPart (qv 1)) qNoPart) (qSl false (qv 0) qNoPart (qPart (qv 1)))) (qgN 2))
  (qSeq (qAsg (qLc false (qiSeq (qv 2)) (qgN 5) (qTest (qOp qGe (qv 5) (qOp qPow (qc (.d (.int 10))) (qc (.d (.int 18)))))) (qv 5) [5]) (qgN 3))
  (qSeq (qAsg (qOp (qAdd false) (qc (.d (.int 71))) (qv 1)) (qgN 4))
  (qSeq (qFor (qiSeq (qv 2)) (qgN 5) (qAsg (qOp qMod (qCB qIntC (qCons (qOp (qAdd false) (qOp (qMul false) (qv 4) (qc (.d (.int 48271)))) (qv 5)) qNil)) (qc (.d (.int 2147483647)))) (qgN 4)))
  (qRet (qDisp (("left", (qIf (qTest (qOp qNe (qv 3) (qLst false qNil))) (qOp qIx (qv 3) (qc (.d (.int 0)))) (qc (.d (.int 0))))) :: (("seed", (qv 4)) :: (("cells", (qOp (qAdd false) (qv 2) (qLst false (qCons (qOp (qAdd false) (qOp (qMul false) (qc (.d (.int 53))) (qv 1)) (qc (.d (.int 11)))) qNil)))) :: (("spot", (qc (.d (.int 0)))) :: []))))))))))
/-- _law_draw(m, below) slots: 0=m 1=below 2=found 3=spot 4=cells 5=extra 6=cell 7=blend -/
def rd_law_draw : TDs :=
  (qSeq (qIfS (qTest (qOp qGt (qOp qDGet (qv 0) (qc (.d (.str "left")))) (qc (.d (.int 0))))) (qSeq (qAsg (qOp qMod (qCB qIntC (qCons (qOp qDGet (qv 0) (qc (.d (.str "left")))) qNil)) (qv 1)) (qgN 2))
      (qSeq (qDPut (qv 0) (qc (.d (.str "left"))) (qOp qFdiv (qOp qDGet (qv 0) (qc (.d (.str "left")))) (qv 1)))
      (qRet (qv 2)))) qNext)
  (qSeq (qAsg (qOp qDGet (qv 0) (qc (.d (.str "spot")))) (qgN 3))
  (qSeq (qDPut (qv 0) (qc (.d (.str "spot"))) (qOp (qAdd false) (qv 3) (qc (.d (.int 1)))))
  (qSeq (qPar 4 5 (qCons (qOp qDGet (qv 0) (qc (.d (.str "cells")))) (qCons (qOp (qAdd false) (qOp qDGet (qv 0) (qc (.d (.str "seed")))) (qOp (qMul false) (qOp (qMul false) (qc (.d (.int 40503))) (qv 3)) (qv 3))) qNil)))
  (qSeq (qAsg (qOp qIx (qv 4) (qOp qMod (qCB qIntC (qCons (qv 3) qNil)) (qCB qLen (qCons (qv 4) qNil)))) (qgN 6))
  (qSeq (qAsg (qOp qMod (qCB qIntC (qCons (qOp (qAdd false) (qOp (qMul false) (qv 6) (qOp (qAdd false) (qOp (qMul false) (qc (.d (.int 2))) (qv 3)) (qc (.d (.int 3))))) (qv 5)) qNil)) (qc (.d (.int 2147483647)))) (qgN 7))
  (qSeq (qAsg (qOp qMod (qCB qIntC (qCons (qOp (qAdd false) (qOp (qAdd false) (qOp (qMul false) (qv 7) (qv 7)) (qOp (qMul false) (qc (.d (.int 69621))) (qv 3))) (qOp qDGet (qv 0) (qc (.d (.str "seed"))))) qNil)) (qc (.d (.int 2147483629)))) (qgN 7))
  (qRet (qOp qMod (qOp qFdiv (qOp qMod (qCB qIntC (qCons (qOp (qAdd false) (qOp (qMul false) (qv 7) (qc (.d (.int 48271)))) (qv 3)) qNil)) (qc (.d (.int 2147483647)))) (qc (.d (.int 11)))) (qv 1))))))))))
/-- divides(a, b) slots: 0=a 1=b 2=one 3=other -/
def rd_divides : TDs :=
  (qSeq (qFor (qiZip (qCons (qv 0) (qCons (qv 1) qNil))) (qgT 2 (qgCons (qgN 2) (qgCons (qgN 3) qgNil))) (qIfS (qTest (qOp qGt (qv 2) (qv 3))) (qRet (qc (.d (.bool false)))) qNext))
  (qRet (qc (.d (.bool true)))))
/-- lcm_of(a, b) slots: 0=a 1=b 2=one 3=other -/
def rd_lcm_of : TDs :=
  (qRet (qCB qTupleC (qCons (qLc false (qiZip (qCons (qv 0) (qCons (qv 1) qNil))) (qgT 2 (qgCons (qgN 2) (qgCons (qgN 3) qgNil))) qYes (qCB qMax2 (qCons (qv 2) (qCons (qv 3) qNil))) [2, 3]) qNil)))
/-- times(a, b) slots: 0=a 1=b 2=one 3=other -/
def rd_times : TDs :=
  (qRet (qCB qTupleC (qCons (qLc false (qiZip (qCons (qv 0) (qCons (qv 1) qNil))) (qgT 2 (qgCons (qgN 2) (qgCons (qgN 3) qgNil))) qYes (qOp (qAdd false) (qv 2) (qv 3)) [2, 3]) qNil)))
/-- cut(a, b) slots: 0=a 1=b 2=one 3=other -/
def rd_cut : TDs :=
  (qRet (qCB qTupleC (qCons (qLc false (qiZip (qCons (qv 0) (qCons (qv 1) qNil))) (qgT 2 (qgCons (qgN 2) (qgCons (qgN 3) qgNil))) qYes (qCB qMax2 (qCons (qOp qSub (qv 2) (qv 3)) (qCons (qc (.d (.int 0))) qNil))) [2, 3]) qNil)))
/-- _law_divides(a, b) slots: 0=a 1=b 2=k -/
def rd_law_divides : TDs :=
  (qRet (qOp qEq (qLc false (qiRng1 (qCons (qCB qLen (qCons (qv 0) qNil)) qNil)) (qgN 2) (qTest (qOp qGt (qOp qIx (qv 0) (qv 2)) (qOp qIx (qv 1) (qv 2)))) (qv 2) [2]) (qLst false qNil)))
/-- _law_least(monomials) slots: 0=monomials 1=some 2=a 3=b -/
def rd_law_least (sp_law_divides : SpD) : TDs :=
  (qSeq (qAsg (BS.qSortB false (qv 0)) (qgN 1))
  (qRet (qCB qTupleC (qCons (qLc false (qiSeq (qv 1)) (qgN 2) (qTest (qOp qEq (qLc false (qiSeq (qv 1)) (qgN 3) (qAndT (qTest (qOp qNe (qv 3) (qv 2))) (qTest (qCall sp_law_divides (qCons (qv 3) (qCons (qv 2) qNil))))) (qv 3) [3]) (qLst false qNil))) (qv 2) [2]) qNil))))
/-- _law_box(tops) slots: 0=tops 1=found 2=top 3=wider 4=a 5=k -/
def rd_law_box : TDs :=
  (qSeq (qAsg (qLst false (qCons (qTup qNil) qNil)) (qgN 1))
  (qSeq (qFor (qiSeq (qv 0)) (qgN 2) (qSeq (qAsg (qLst true qNil) (qgN 3))
      (qSeq (qFor (qiSeq (qv 1)) (qgN 4) (qDrop (qExtend (qv 3) (qLc false (qiRng1 (qCons (qOp (qAdd false) (qv 2) (qc (.d (.int 1)))) qNil)) (qgN 5) qYes (qOp (qAdd false) (qv 4) (qTup (qCons (qv 5) qNil))) [5]))))
      (qAsg (qv 3) (qgN 1)))))
  (qRet (qv 1))))
/-- _law_monomial(m, n, top) slots: 0=m 1=n 2=top 3=k -/
def rd_law_monomial (sp_law_draw : SpD) : TDs :=
  (qRet (qCB qTupleC (qCons (qLc false (qiRng1 (qCons (qv 1) qNil)) (qgN 3) qYes (qIf (qTest (qOp qGt (qCall sp_law_draw (qCons (qv 0) (qCons (qc (.d (.int 3))) qNil))) (qc (.d (.int 0))))) (qCall sp_law_draw (qCons (qv 0) (qCons (qOp (qAdd false) (qv 2) (qc (.d (.int 1)))) qNil))) (qc (.d (.int 0)))) [3]) qNil)))
/-- _law_ideal(m, n, count, top) slots: 0=m 1=n 2=count 3=top 4=some 5=k 6=a -/
def rd_law_ideal (sp_law_draw : SpD) (sp_law_monomial : SpD) (sp_law_least : SpD) : TDs :=
  (qSeq (qAsg (qLc false (qiRng1 (qCons (qCall sp_law_draw (qCons (qv 0) (qCons (qOp (qAdd false) (qv 2) (qc (.d (.int 1)))) qNil))) qNil)) (qgN 5) qYes (qCall sp_law_monomial (qCons (qv 0) (qCons (qv 1) (qCons (qv 3) qNil)))) [5]) (qgN 4))
  (qRet (qTup (qCons (qv 1) (qCons (qCall sp_law_least (qCons (qLc false (qiSeq (qv 4)) (qgN 6) (qTest (qOp qGt (qCB qSum (qCons (qv 6) qNil)) (qc (.d (.int 0))))) (qv 6) [6]) qNil)) qNil)))))
/-- least_ones(monomials) slots: 0=monomials 1=found 2=monomial 3=other -/
def rd_least_ones (sp_divides : SpD) : TDs :=
  (qSeq (qAsg (qLst true qNil) (qgN 1))
  (qSeq (qFor (qiSeq (BS.qSortB false (qv 0))) (qgN 2) (qIfS (qNotT (qTest (qCB qAny (qCons (qLc false (qiSeq (qv 1)) (qgN 3) qYes (qCall sp_divides (qCons (qv 3) (qCons (qv 2) qNil))) [3]) qNil)))) (qDrop (qAppend (qv 1) (qv 2))) qNext))
  (qRet (qv 1))))
/-- made(n, monomials) slots: 0=n 1=monomials 2=found 3=monomial -/
def rd_made (sp_least_ones : SpD) : TDs :=
  (qSeq (qAsg (qCall sp_least_ones (qCons (qv 1) qNil)) (qgN 2))
  (qSeq (qIfS (qTest (qOp qGt (qCB qLen (qCons (qv 2) qNil)) (qc (.d (.int 60))))) qNever qNext)
  (qSeq (qFor (qiSeq (qv 2)) (qgN 3) (qIfS (qTest (qOp qGt (qCB qMax1 (qCons (qv 3) qNil)) (qc (.d (.int 60))))) qNever qNext))
  (qRet (qTup (qCons (qv 0) (qCons (qCB qTupleC (qCons (qv 2) qNil)) qNil)))))))
/-- sum_of(a, b) slots: 0=a 1=b -/
def rd_sum_of (sp_made : SpD) : TDs :=
  (qRet (qCall sp_made (qCons (qOp qIx (qv 0) (qc (.d (.int 0)))) (qCons (qCB (qListC false) (qCons (qOp (qAdd false) (qOp qIx (qv 0) (qc (.d (.int 1)))) (qOp qIx (qv 1) (qc (.d (.int 1))))) qNil)) qNil))))
/-- meet_of(a, b) slots: 0=a 1=b 2=one 3=other -/
def rd_meet_of (sp_lcm_of : SpD) (sp_made : SpD) : TDs :=
  (qRet (qCall sp_made (qCons (qOp qIx (qv 0) (qc (.d (.int 0)))) (qCons (qLc2 false (qiSeq (qOp qIx (qv 0) (qc (.d (.int 1))))) (qgN 2) qYes (qiSeq (qOp qIx (qv 1) (qc (.d (.int 1))))) (qgN 3) qYes (qCall sp_lcm_of (qCons (qv 2) (qCons (qv 3) qNil))) [2, 3] [3]) qNil))))
/-- _law_times(a, b) slots: 0=a 1=b 2=k -/
def rd_law_times : TDs :=
  (qRet (qCB qTupleC (qCons (qLc false (qiRng1 (qCons (qCB qLen (qCons (qv 0) qNil)) qNil)) (qgN 2) qYes (qOp (qAdd false) (qOp qIx (qv 0) (qv 2)) (qOp qIx (qv 1) (qv 2))) [2]) qNil)))
/-- _law_in(generators, b) slots: 0=generators 1=b 2=a -/
def rd_law_in (sp_law_divides : SpD) : TDs :=
  (qRet (qOp qNe (qLc false (qiSeq (qv 0)) (qgN 2) (qTest (qCall sp_law_divides (qCons (qv 2) (qCons (qv 1) qNil)))) (qv 2) [2]) (qLst false qNil)))
/-- colon_by(ideal, monomial) slots: 0=ideal 1=monomial 2=generator -/
def rd_colon_by (sp_cut : SpD) (sp_made : SpD) : TDs :=
  (qRet (qCall sp_made (qCons (qOp qIx (qv 0) (qc (.d (.int 0)))) (qCons (qLc false (qiSeq (qOp qIx (qv 0) (qc (.d (.int 1))))) (qgN 2) qYes (qCall sp_cut (qCons (qv 2) (qCons (qv 1) qNil))) [2]) qNil))))
/-- want_small(ideal) slots: 0=ideal -/
def rd_want_small : TDs :=
  (qSeq (qIfS (qTest (qOp qGt (qOp qIx (qv 0) (qc (.d (.int 0)))) (qc (.d (.int 8))))) qNever qNext)
  (qIfS (qTest (qOp qGt (qCB qLen (qCons (qOp qIx (qv 0) (qc (.d (.int 1)))) qNil)) (qc (.d (.int 10))))) qNever qNext))
end RD
end
section
set_option Elab.async false
set_option linter.all false
set_option maxRecDepth 100000
set_option maxHeartbeats 1000000
namespace UC
open PySem L2 DL
def Sh (n : Nat) (d : PyData) : Prop := d.canLay0 = true ∧ d.depth ≤ n
theorem Sh.shaped {d : PyData} (h : Sh 64 d) : SeqAt.shaped d = true := by
  unfold SeqAt.shaped
  rw [h.1, decide_eq_true h.2]
  rfl
theorem Sh.mono {n m : Nat} {d : PyData} (h : Sh n d) (hm : n ≤ m) : Sh m d := ⟨h.1, Nat.le_trans h.2 hm⟩
theorem sh_int {n : Nat} {i : Int} : Sh n (.int i) := ⟨by simp [PyData.canLay0], by simp [PyData.depth]⟩
theorem sh_bool {n : Nat} {b : Bool} : Sh n (.bool b) := ⟨by simp [PyData.canLay0], by simp [PyData.depth]⟩
theorem canAll : ∀ {l : List PyData}, (∀ x ∈ l, x.canLay0 = true) → PyData.canLayAll0 l = true
  | [], _ => by simp [PyData.canLayAll0]
  | x :: r, h => by
    have h1 := h x List.mem_cons_self
    have h2 := canAll (l := r) fun y hy => h y (List.mem_cons_of_mem _ hy)
    simp [PyData.canLayAll0, h1, h2]
theorem depAll {n : Nat} : ∀ {l : List PyData}, (∀ x ∈ l, x.depth ≤ n) → PyData.depthAll l ≤ n
  | [], _ => by simp [PyData.depthAll]
  | x :: r, h => by
    have h1 := h x List.mem_cons_self
    have h2 := depAll (l := r) fun y hy => h y (List.mem_cons_of_mem _ hy)
    simp only [PyData.depthAll]
    omega
theorem sh_list {n : Nat} {l : List PyData} (h : ∀ x ∈ l, Sh n x) : Sh (n + 1) (.list l) := by
  have h1 := canAll fun x hx => (h x hx).1
  have h2 := depAll fun x hx => (h x hx).2
  exact ⟨by simp [PyData.canLay0, h1], by simp only [PyData.depth]; omega⟩
theorem sh_tuple {n : Nat} {l : List PyData} (h : ∀ x ∈ l, Sh n x) : Sh (n + 1) (.tuple l) := by
  have h1 := canAll fun x hx => (h x hx).1
  have h2 := depAll fun x hx => (h x hx).2
  exact ⟨by simp [PyData.canLay0, h1], by simp only [PyData.depth]; omega⟩
theorem forall_map {α : Type} {f : α → PyData} {l : List α} {p : PyData → Prop} (h : ∀ x ∈ l, p (f x)) : ∀ y ∈ l.map f, p y := fun y hy => by
  obtain ⟨x, hx, rfl⟩ := List.mem_map.mp hy
  exact h x hx
/-- a monomial, a tuple of monomials, a list of them -/
abbrev TI (a : List Int) : PyData := .tuple (a.map .int)
abbrev LI (a : List Int) : PyData := .list (a.map .int)
abbrev TT (l : List (List Int)) : PyData := .tuple (l.map TI)
abbrev LT (l : List (List Int)) : PyData := .list (l.map TI)
theorem sh_TI {n : Nat} {a : List Int} : Sh (n + 1) (TI a) := sh_tuple (forall_map fun _ _ => sh_int)
theorem sh_LI {n : Nat} {a : List Int} : Sh (n + 1) (LI a) := sh_list (forall_map fun _ _ => sh_int)
theorem sh_TT {n : Nat} {l : List (List Int)} : Sh (n + 2) (TT l) := sh_tuple (forall_map fun _ _ => sh_TI)
theorem sh_LT {n : Nat} {l : List (List Int)} : Sh (n + 2) (LT l) := sh_list (forall_map fun _ _ => sh_TI)
@[simp] theorem shaped_TI {a : List Int} : SeqAt.shaped (TI a) = true := (sh_TI (n := 63)).shaped
@[simp] theorem shaped_LI {a : List Int} : SeqAt.shaped (LI a) = true := (sh_LI (n := 63)).shaped
@[simp] theorem shaped_TT {a : List (List Int)} : SeqAt.shaped (TT a) = true := (sh_TT (n := 62)).shaped
@[simp] theorem shaped_LT {a : List (List Int)} : SeqAt.shaped (LT a) = true := (sh_LT (n := 62)).shaped
@[simp] theorem shaped_int {i : Int} : SeqAt.shaped (.int i) = true := (sh_int (n := 64)).shaped
@[simp] theorem shaped_bool {i : Bool} : SeqAt.shaped (.bool i) = true := (sh_bool (n := 64)).shaped
@[simp] theorem shaped_nilL : SeqAt.shaped (.list []) = true := by decide +kernel
@[simp] theorem shaped_nilT : SeqAt.shaped (.tuple []) = true := by decide +kernel
/-- a kind of data whose equality is that of what it tells -/
def EqK {α : Type} [DecidableEq α] (f : α → PyData) : Prop := ∀ x y, PyData.eqv (f x) (f y) = decide (x = y)
theorem eqk_int : EqK PyData.int := fun x y => by
  rw [PyData.eqv]
  by_cases h : x = y <;> simp [h]
theorem eqk_bool : EqK PyData.bool := fun x y => by
  rw [PyData.eqv]
  cases x <;> cases y <;> rfl
theorem eqvAll_map {α : Type} [DecidableEq α] {f : α → PyData} (h : EqK f) : ∀ xs ys : List α, PyData.eqvAll (xs.map f) (ys.map f) = decide (xs = ys)
  | [], [] => by simp [PyData.eqvAll]
  | [], y :: ys => by simp [PyData.eqvAll]
  | x :: xs, [] => by simp [PyData.eqvAll]
  | x :: xs, y :: ys => by
    rw [List.map_cons, List.map_cons, PyData.eqvAll, h x y, eqvAll_map h xs ys]
    by_cases h1 : x = y <;> by_cases h2 : xs = ys <;> simp [h1, h2]
theorem eqk_tuple {α : Type} [DecidableEq α] {f : α → PyData} (h : EqK f) : EqK fun l : List α => PyData.tuple (l.map f) := fun xs ys => by
  rw [PyData.eqv, eqvAll_map h]
theorem eqk_list {α : Type} [DecidableEq α] {f : α → PyData} (h : EqK f) : EqK fun l : List α => PyData.list (l.map f) := fun xs ys => by
  rw [PyData.eqv, eqvAll_map h]
@[simp] theorem eqv_int (x y : Int) : PyData.eqv (.int x) (.int y) = decide (x = y) := eqk_int x y
@[simp] theorem eqv_bool (x y : Bool) : PyData.eqv (.bool x) (.bool y) = decide (x = y) := eqk_bool x y
@[simp] theorem eqv_TI (x y : List Int) : PyData.eqv (TI x) (TI y) = decide (x = y) := eqk_tuple eqk_int x y
@[simp] theorem eqv_LI (x y : List Int) : PyData.eqv (LI x) (LI y) = decide (x = y) := eqk_list eqk_int x y
@[simp] theorem eqv_TT (x y : List (List Int)) : PyData.eqv (TT x) (TT y) = decide (x = y) := eqk_tuple (eqk_tuple eqk_int) x y
@[simp] theorem eqv_LT (x y : List (List Int)) : PyData.eqv (LT x) (LT y) = decide (x = y) := eqk_list (eqk_tuple eqk_int) x y
@[simp] theorem eqv_nilL {α : Type} (f : α → PyData) (x : List α) : PyData.eqv (.list (x.map f)) (.list []) = decide (x = []) := by
  cases x <;> simp [PyData.eqv, PyData.eqvAll]
@[simp] theorem eqv_nilT {α : Type} (f : α → PyData) (x : List α) : PyData.eqv (.tuple (x.map f)) (.tuple []) = decide (x = []) := by
  cases x <;> simp [PyData.eqv, PyData.eqvAll]
@[simp] theorem mkT_map (l : List PyData) : mkT (l.map .d) = .d (.tuple l) := by
  unfold mkT
  rw [datas_map]
@[simp] theorem mkT_2 (a b : PyData) : mkT [.d a, .d b] = .d (.tuple [a, b]) := rfl
@[simp] theorem mkT_3 (a b c : PyData) : mkT [.d a, .d b, .d c] = .d (.tuple [a, b, c]) := rfl
@[simp] theorem mkT_0 : mkT [] = .d (.tuple []) := rfl
@[simp] theorem mkT_1 (a : PyData) : mkT [.d a] = .d (.tuple [a]) := rfl
theorem sizeL : sizeLine = 16777216 := rfl
theorem fmod_range {i j : Int} (h : 0 < j) : 0 ≤ i.fmod j ∧ i.fmod j < j := by
  rw [Int.fmod_eq_emod_of_nonneg i (by omega)]
  exact ⟨Int.emod_nonneg _ (by omega), Int.emod_lt_of_pos _ h⟩
theorem cmul_l {i j : Int} (h1 : -(2 ^ 64) < i) (h2 : i < 2 ^ 64) : CMulA i j := .inl (.inl ⟨h1, h2⟩)
theorem cmul_r {i j : Int} (h1 : -(2 ^ 64) < j) (h2 : j < 2 ^ 64) : CMulA i j := .inl (.inr ⟨h1, h2⟩)
theorem cutD_len {α : Type} (xs : List α) (lo hi : Option Int) : (cutD xs lo hi).length ≤ xs.length := by
  unfold cutD
  rw [List.length_take, List.length_drop]
  omega
theorem dints_map2 (l : List Int) : dints ((l.map PyData.int).map DV.d) = some l := by
  rw [List.map_map]
  exact dints_map l
theorem dbools_map2 (l : List Bool) : dbools ((l.map PyData.bool).map DV.d) = some l := by
  rw [List.map_map]
  exact dbools_map l
theorem atI_map2 {α : Type} {f : α → PyData} {l : List α} {j : Nat} (h : j < l.length) : atI (List.map DV.d (List.map f l)) (j : Int) = some (.d (f l[j])) := atI_nat (by rw [List.getElem?_map, List.getElem?_map, List.getElem?_eq_getElem h]; rfl)
theorem comp_mapT {α : Type} (h : α → DV) (f : α → DV) {inv : Sto → Prop} {g : TDg} {te : TD} {ε : DL.Env} {Kc : List DV → Sto → Prop} {st : Sto} (hi : inv st) : ∀ (l : List α) (acc : List DV),
    (∀ p ∈ l, ∀ Q : DV → Sto → Prop, Q (f p) st → g (h p) ε st fun ε1 s1 => te ε1 s1 Q) → Kc (acc ++ l.map f) st → qComp inv g qYes te ε Kc (l.map h) acc st
  | [], acc, _, k => ⟨hi, by rw [List.map_nil, List.append_nil] at k; exact k⟩
  | x :: xs, acc, hx, k => by
    refine ⟨hi, ?_⟩
    refine hx x List.mem_cons_self (fun y s3 => qComp inv g qYes te ε Kc (xs.map h) (acc ++ [y]) s3) ?_
    exact comp_mapT h f hi xs (acc ++ [f x]) (fun y hy => hx y (List.mem_cons_of_mem _ hy)) (by rw [List.append_assoc]; exact k)
theorem comp_fmT {α : Type} (h : α → DV) (p : α → Bool) (f : α → DV) {inv : Sto → Prop} {g : TDg} {tt : TDt} {te : TD} {ε : DL.Env} {Kc : List DV → Sto → Prop} {st : Sto} (hi : inv st) : ∀ (l : List α) (acc : List DV),
    (∀ x ∈ l, ∀ (Q1 : DV → Sto → Prop) (Q2 : Sto → Prop), (if p x = true then Q1 (f x) st else Q2 st) → g (h x) ε st fun ε1 s1 => tt ε1 s1 fun b s2 => if b = true then te ε1 s2 Q1 else Q2 s2) → Kc (acc ++ (l.filter p).map f) st → qComp inv g tt te ε Kc (l.map h) acc st
  | [], acc, _, k => ⟨hi, by rw [List.filter_nil, List.map_nil, List.append_nil] at k; exact k⟩
  | x :: xs, acc, hx, k => by
    refine ⟨hi, ?_⟩
    refine hx x List.mem_cons_self (fun y s3 => qComp inv g tt te ε Kc (xs.map h) (acc ++ [y]) s3) (fun s2 => qComp inv g tt te ε Kc (xs.map h) acc s2) ?_
    cases e : p x with
    | true =>
      rw [if_pos rfl]
      refine comp_fmT h p f hi xs (acc ++ [f x]) (fun y hy => hx y (List.mem_cons_of_mem _ hy)) ?_
      rw [List.filter_cons, if_pos e, List.map_cons] at k
      rw [List.append_assoc]
      exact k
    | false =>
      rw [if_neg Bool.false_ne_true]
      refine comp_fmT h p f hi xs acc (fun y hy => hx y (List.mem_cons_of_mem _ hy)) ?_
      rw [List.filter_cons, if_neg (by rw [e]; exact Bool.false_ne_true)] at k
      exact k
/-- a for over typed items: i items gone -/
theorem for_byT {α : Type} (h : α → DV) {inv : Sto → Prop} {g : TDg} {tb : TDs} {D : EndsD} {l : List α} {ε : DL.Env} {st : Sto} (W : Nat → DL.Env → Sto → Prop) (h0 : W 0 ε st) (hi : ∀ i ε st, W i ε st → inv st)
    (hs : ∀ (i : Nat) (x : α) ε st, l[i]? = some x → W i ε st → ∀ L : DL.Env → Sto → Prop, (∀ ε' st', W (i + 1) ε' st' → L ε' st') → g (h x) ε st fun ε1 s1 => tb { D with nx := L, ct := L, bk := D.nx } ε1 s1) (hd : ∀ ε st, W l.length ε st → D.nx ε st) : qLoop inv g tb D (l.map h) ε st := by
  have : ∀ (r : List α) (i : Nat) ε st, l.drop i = r → i + r.length = l.length → W i ε st → qLoop inv g tb D (r.map h) ε st := by
    intro r
    induction r with
    | nil =>
      intro i ε st hdr hlen w
      have e : i = l.length := by simpa using hlen
      subst e
      exact ⟨hi _ _ _ w, hd _ _ w⟩
    | cons y r ih =>
      intro i ε st hdr hlen w
      have hx : l[i]? = some y := by
        have := congrArg (fun z => z[0]?) hdr
        simp only [List.getElem?_drop, List.getElem?_cons_zero, Nat.add_zero] at this
        exact this
      refine ⟨hi _ _ _ w, hs i y ε st hx w _ fun ε' st' w' => ?_⟩
      refine ih (i + 1) ε' st' ?_ (by simp only [List.length_cons] at hlen; omega) w'
      rw [← List.drop_drop, hdr]
      rfl
  exact this l 0 ε st rfl (by simp) h0
theorem fg_ret {Q : DV → Sto → Prop} {x : DV} {st : Sto} (h : Q x st) : Fg Q x st := ⟨st, Le.refl st, h⟩
theorem in_IT (neg : Bool) (i : Int) (a : List Int) (st : Sto) (Q : DV → Sto → Prop) : qIn neg (.d (.int i)) (.d (TI a)) st Q = Q (.d (.bool (if neg then !decide (i ∈ a) else decide (i ∈ a)))) st := qIn_IT neg i a st Q
theorem in_IL (neg : Bool) (i : Int) (a : List Int) (st : Sto) (Q : DV → Sto → Prop) : qIn neg (.d (.int i)) (.d (LI a)) st Q = Q (.d (.bool (if neg then !decide (i ∈ a) else decide (i ∈ a)))) st := qIn_IL neg i a st Q
theorem in_TT (neg : Bool) (a : List Int) (l : List (List Int)) (st : Sto) (Q : DV → Sto → Prop) : qIn neg (.d (TI a)) (.d (TT l)) st Q = Q (.d (.bool (if neg then !decide (a ∈ l) else decide (a ∈ l)))) st := qIn_TT neg a l st Q
theorem in_TL (neg : Bool) (a : List Int) (l : List (List Int)) (st : Sto) (Q : DV → Sto → Prop) : qIn neg (.d (TI a)) (.d (LT l)) st Q = Q (.d (.bool (if neg then !decide (a ∈ l) else decide (a ∈ l)))) st := qIn_TL neg a l st Q
theorem keyT_ints : ∀ a : List Int, keyT ((a.map PyData.int).map DV.d) = some (a.map Sum.inl)
  | [] => rfl
  | x :: a => by
    rw [List.map_cons, List.map_cons, keyT, keyT_ints a]
    rfl
theorem keyX_TI (a : List Int) : keyX (.d (TI a)) = some (a.map Sum.inl) := keyT_ints a
def tabD (l : List (List Int × DV)) : List (List Key × DV) := l.map fun p => (p.1.map Sum.inl, p.2)
theorem len_tab (l : List (List Int × DV)) : (tabD l).length = l.length := List.length_map ..
theorem keys_tab (l : List (List Int × DV)) : keysD (tabD l) = l.map (·.1) := by
  unfold keysD tabD
  rw [List.map_map]
  refine List.map_congr_left fun p _ => ?_
  exact BS.keyInts_inl p.1
theorem intKeys_tab (l : List (List Int × DV)) : BS.IntKeys (tabD l) := fun p hp => by
  obtain ⟨q, _, rfl⟩ := List.mem_map.mp hp
  exact ⟨q.1, rfl⟩
theorem inl_inj {a b : List Int} (h : (a.map Sum.inl : List Key) = b.map Sum.inl) : a = b := by
  have := congrArg (List.map BS.keyInt) h
  rw [BS.keyInts_inl, BS.keyInts_inl] at this
  exact this
theorem dec_inl (a b : List Int) : decide ((a.map Sum.inl : List Key) = b.map Sum.inl) = decide (a = b) := by
  rw [Bool.eq_iff_iff, decide_eq_true_eq, decide_eq_true_eq]
  exact ⟨inl_inj, fun h => by rw [h]⟩
def putT (l : List (List Int × DV)) (a : List Int) (v : DV) : List (List Int × DV) :=
  if (l.any fun p => decide (p.1 = a)) = true then l.map fun p => if p.1 = a then (p.1, v) else p else l ++ [(a, v)]
theorem put_tab (l : List (List Int × DV)) (a : List Int) (v : DV) : putD (tabD l) (a.map Sum.inl) v = tabD (putT l a v) := by
  unfold putD putT tabD
  rw [List.any_map]
  have e : ((fun kv : List Key × DV => decide (kv.1 = a.map Sum.inl)) ∘ fun p : List Int × DV => ((p.1.map Sum.inl : List Key), p.2)) = fun p : List Int × DV => decide (p.1 = a) := funext fun p => dec_inl p.1 a
  rw [e]
  split
  · rw [List.map_map, List.map_map]
    refine List.map_congr_left fun p _ => ?_
    show (if (p.1.map Sum.inl : List Key) = a.map Sum.inl then _ else _) = _
    by_cases h : p.1 = a
    · rw [if_pos (by rw [h])]
      show _ = ((if p.1 = a then (p.1, v) else p).1.map Sum.inl, (if p.1 = a then (p.1, v) else p).2)
      rw [if_pos h]
    · rw [if_neg fun z => h (inl_inj z)]
      show _ = ((if p.1 = a then (p.1, v) else p).1.map Sum.inl, (if p.1 = a then (p.1, v) else p).2)
      rw [if_neg h]
  · rw [List.map_append]
    rfl
theorem dput_tab (l : List (List Int × DV)) (a : List Int) (v : DV) (h : l.length < sizeLine) : dput (some (.dT (tabD l))) (.d (TI a)) v = some (.dT (tabD (putT l a v))) := by
  show (match titems (.d (TI a)) with | some ys => (match keyT ys with | some q => if (tabD l).length < sizeLine then some (MO.dT (putD (tabD l) q v)) else none | none => none) | none => none) = _
  rw [show titems (.d (TI a)) = some ((a.map PyData.int).map DV.d) from rfl]
  show (match keyT ((a.map PyData.int).map DV.d) with | some q => if (tabD l).length < sizeLine then some (MO.dT (putD (tabD l) q v)) else none | none => none) = _
  rw [keyT_ints]
  show (if (tabD l).length < sizeLine then some (MO.dT (putD (tabD l) (a.map Sum.inl) v)) else none) = _
  rw [len_tab, if_pos h, put_tab]
theorem tups_dv (l : List (List Int)) : l.map tupD = (l.map TI).map DV.d := by
  rw [List.map_map]
  rfl
theorem list_tab (m : Bool) (l : List (List Int × DV)) {a : Addr} {st : Sto} {Q : DV → Sto → Prop} (h : st a = some (.dT (tabD l))) (q : newL m (((l.map (·.1)).map TI).map .d) st Q) : qListDT m [.r a] st Q := by
  unfold qListDT
  simp only [h]
  refine ⟨intKeys_tab l, ?_⟩
  rw [keys_tab, tups_dv]
  exact q
end UC
end
section
set_option Elab.async false
set_option linter.all false
set_option maxRecDepth 100000
set_option maxHeartbeats 1000000
open PySem L2 DL
local macro_rules | `(tactic| walk_at "E") => `(tactic| (try simp only [qAsg, qRet, qDrop, qIfS, qTest, qAndT, qOrT, qNotT, qAndV, qOrV, qNotV, qIf, qOp, qUn, qChain, onB, qv, qc, qgN, qgT, qgCons, qgNil, qCons, qNil, qTup, qLst, qPar, qPar3, qAug, qCB, qCall, qLen, qTupleC, qListC, qMax2, qMin2, qIntC, qSum, qAny, qAll, qIsi, tyName, qAdd, qSub, qMul, qFdiv, qMod, qPow, qI2, qCmpI, qEq, qNe, qLt, qLe, qGt, qGe, qNeg, qIx, qDGet, qDIn, qDPut, qSl, qPart, qNoPart, qNext, qFor, qiSeq, qiRng1, qiRng2, qiZip, qiEnum, qLc, seqSrc, lsrc, titems, litems, sitems, fz, newL, List.getElem?_cons_zero, List.getElem?_cons_succ, List.set_cons_zero, List.set_cons_succ, if_true, if_false, Bool.false_eq_true, ite_true, ite_false, up_same, reduceIte, decide_true, decide_false, true_and, and_true]))
namespace UC
open PySem L2 DL RD
abbrev I (i : Int) : DV := .d (.int i)
abbrev Bo (b : Bool) : DV := .d (.bool b)
def mkM (left seed : Int) (cells : List Int) (spot : Int) : MO := .dK [(.inr "left", I left), (.inr "seed", I seed), (.inr "cells", .d (.list (cells.map .int))), (.inr "spot", I spot)]
def DrawSt (st : Sto) (a : Addr) (B : Nat) : Prop := ∃ (left seed : Int) (cells : List Int) (spot : Int), st a = some (mkM left seed cells spot) ∧ cells ≠ [] ∧ 0 ≤ spot ∧ spot ≤ B
theorem DrawSt.mono {st : Sto} {a : Addr} {B B' : Nat} (h : DrawSt st a B) (hb : B ≤ B') : DrawSt st a B' := by
  obtain ⟨l, s, c, p, h1, h2, h3, h4⟩ := h
  exact ⟨l, s, c, p, h1, h2, h3, by omega⟩
theorem look_left {l s : Int} {c : List Int} {p : Int} : dlook (some (mkM l s c p)) (.d (.str "left")) = some (some (I l)) := by rfl
theorem look_seed {l s : Int} {c : List Int} {p : Int} : dlook (some (mkM l s c p)) (.d (.str "seed")) = some (some (I s)) := by rfl
theorem look_cells {l s : Int} {c : List Int} {p : Int} : dlook (some (mkM l s c p)) (.d (.str "cells")) = some (some (.d (.list (c.map .int)))) := by rfl
theorem look_spot {l s : Int} {c : List Int} {p : Int} : dlook (some (mkM l s c p)) (.d (.str "spot")) = some (some (I p)) := by rfl
theorem put_left {l s l' : Int} {c : List Int} {p : Int} : dput (some (mkM l s c p)) (.d (.str "left")) (I l') = some (mkM l' s c p) := by rfl
theorem put_spot {l s p' : Int} {c : List Int} {p : Int} : dput (some (mkM l s c p)) (.d (.str "spot")) (I p') = some (mkM l s c p') := by rfl
def sp_law_draw : SpD := fun xs st Q => ∃ (a : Addr) (below : Int) (B : Nat), xs = [.r a, I below] ∧ 1 ≤ below ∧ below < 2 ^ 30 ∧ B < 2 ^ 50 ∧ DrawSt st a B ∧
  ∀ (v : Int) st', 0 ≤ v → v < below → DrawSt st' a (B + 1) → (∀ b, b ≠ a → st' b = st b) → Q (I v) st'
theorem sem_law_draw : ∀ xs st Q, sp_law_draw xs st Q → rd_law_draw { nx := fun _ st' => Fg Q (.d .none) st', rt := Fg Q } (startD 8 xs) st := by
  rintro xs st Q ⟨a, below, B, rfl, h1, h2, hB, ⟨left, seed, cells, spot, hm, hc, hs0, hsB⟩, k⟩
  have e0 : startD 8 [.r a, I below] = [some (.r a), some (I below), none, none, none, none, none, none] := rfl
  rw [e0]
  unfold rd_law_draw
  refine seq fun N hN => ?_
  walk_at "E"
  simp only [hm, look_left]
  walk_at "E"
  by_cases hl : 0 < left
  · simp only [hl, decide_true, if_true]
    refine seq fun N1 hN1 => ?_
    walk_at "E"
    simp only [hm, look_left]
    walk_at "E"
    refine ⟨by omega, hN1 _ _ ?_⟩
    refine seq fun N2 hN2 => ?_
    walk_at "E"
    simp only [hm, look_left, put_left]
    walk_at "E"
    refine ⟨.inl ⟨by omega, by omega⟩, hN2 _ _ ?_⟩
    walk_at "E"
    obtain ⟨r1, r2⟩ := fmod_range (i := left) (j := below) (by omega)
    exact ⟨_, Le.refl _, k _ _ r1 r2 ⟨_, seed, cells, spot, up_same, hc, hs0, by omega⟩ fun b hb => up_ne hb⟩
  · simp only [hl, decide_false]
    walk_at "E"
    refine hN _ _ ?_
    clear hN N
    refine seq fun N hN => ?_
    walk_at "E"
    simp only [hm, look_spot]
    refine hN _ _ ?_
    clear hN N
    refine seq fun N hN => ?_
    walk_at "E"
    simp only [hm, put_spot]
    walk_at "E"
    refine hN _ _ ?_
    clear hN N
    refine seq fun N hN => ?_
    walk_at "E"
    simp only [up_same, look_cells, look_seed]
    walk_at "E"
    refine ⟨cmul_l (by omega) (by omega), cmul_r (by omega) (by omega), hN _ _ ?_⟩
    clear hN N
    have hlen : 0 < cells.length := List.length_pos_iff.mpr hc
    obtain ⟨j, hj, hjl⟩ : ∃ j : Nat, spot.fmod (cells.length : Int) = (j : Int) ∧ j < cells.length := by
      obtain ⟨r1, r2⟩ := fmod_range (i := spot) (j := (cells.length : Int)) (by omega)
      exact ⟨(spot.fmod (cells.length : Int)).toNat, by omega, by omega⟩
    refine seq fun N hN => ?_
    walk_at "E"
    simp only [List.length_map, hj, atI_map2 hjl]
    refine ⟨by omega, hN _ _ ?_⟩
    clear hN N
    refine seq fun N hN => ?_
    walk_at "E"
    refine ⟨cmul_l (by omega) (by omega), cmul_r (by omega) (by omega), by omega, hN _ _ ?_⟩
    clear hN N
    generalize hb1 : (cells[j] * (2 * spot + 3) + (seed + 40503 * spot * spot)).fmod 2147483647 = b1
    obtain ⟨r1, r2⟩ := fmod_range (i := cells[j] * (2 * spot + 3) + (seed + 40503 * spot * spot)) (j := 2147483647) (by omega)
    rw [hb1] at r1 r2
    refine seq fun N hN => ?_
    walk_at "E"
    simp only [up_same, look_seed]
    walk_at "E"
    refine ⟨cmul_l (by omega) (by omega), cmul_l (by omega) (by omega), by omega, hN _ _ ?_⟩
    clear hN N
    generalize hb2 : (b1 * b1 + 69621 * spot + seed).fmod 2147483629 = b2
    obtain ⟨r3, r4⟩ := fmod_range (i := b1 * b1 + 69621 * spot + seed) (j := 2147483629) (by omega)
    rw [hb2] at r3 r4
    walk_at "E"
    refine ⟨cmul_l (by omega) (by omega), by omega, .inl ⟨by omega, by omega⟩, by omega, ?_⟩
    obtain ⟨r5, r6⟩ := fmod_range (i := (((b2 * 48271 + spot).fmod 2147483647).fdiv 11)) (j := below) (by omega)
    exact ⟨_, Le.refl _, k _ _ r5 r6 ⟨left, seed, cells, spot + 1, up_same, hc, by omega, by omega⟩ fun b hb => up_ne hb⟩
theorem len_law_draw : ∀ xs st Q, sp_law_draw xs st Q → xs.length = 2 := by
  rintro xs st Q ⟨a, below, B, rfl, _⟩
  rfl
/-- the cells of a turn -/
def sp_law_begun : SpD := fun xs st Q => ∃ (ns : List Int) (k : Int), xs = [.d (.list (ns.map .int)), I k] ∧ ns.length ≤ 63 ∧ 0 ≤ k ∧ k < 2 ^ 40 ∧
  ∀ p st', st p = none → DrawSt st' p 0 → (∀ b, b ≠ p → st' b = st b) → Q (.r p) st'
theorem len_law_begun : ∀ xs st Q, sp_law_begun xs st Q → xs.length = 2 := by
  rintro xs st Q ⟨ns, k, rfl, _⟩
  rfl
theorem sem_law_begun : ∀ xs st Q, sp_law_begun xs st Q → rd_law_begun { nx := fun _ st' => Fg Q (.d .none) st', rt := Fg Q } (startD 6 xs) st := by
  rintro xs st Q ⟨ns, k, rfl, h1, h2, h3, K⟩
  have e0 : startD 6 [.d (.list (ns.map .int)), I k] = [some (.d (.list (ns.map .int))), some (I k), none, none, none, none] := rfl
  rw [e0]
  unfold rd_law_begun
  refine seq fun N hN => ?_
  walk_at "E"
  simp only [cutD_map, datas_map, ← List.map_append]
  walk_at "E"
  generalize hcs : (cutD ns (some k) none ++ cutD ns none (some k)) = cs
  have hl : cs.length ≤ 126 := by
    rw [← hcs, List.length_append]
    have a := cutD_len ns (some k) none
    have b := cutD_len ns none (some k)
    omega
  have hl2 : (List.map PyData.int (cutD ns (some k) none)).length + (List.map PyData.int (cutD ns none (some k))).length ≤ sizeLine := by
    have a := cutD_len ns (some k) none
    have b := cutD_len ns none (some k)
    rw [List.length_map, List.length_map, sizeL]
    omega
  simp only [List.length_map] at hl2 ⊢
  refine ⟨hl2, hN _ _ ?_⟩
  clear hN N
  -- great
  refine seq fun N hN => ?_
  walk_at "E"
  refine ⟨by simp only [List.length_map, sizeL]; omega, ?_⟩
  refine comp_fm (fun x => match x with | .d (.int i) => decide (10 ^ 18 ≤ i) | _ => false) id trivial _ _ ?_ ?_
  · intro x hx Q1 Q2 h
    rw [List.mem_map] at hx
    obtain ⟨y, hy, rfl⟩ := hx
    rw [List.mem_map] at hy
    obtain ⟨i, hi, rfl⟩ := hy
    simp only [wipeD]
    walk_at "E"
    simp only [id] at h
    simp only [CPow]
    exact ⟨by decide, h⟩
  · obtain ⟨gs, hgs⟩ : ∃ gs : List Int, (([] : List DV) ++ ((cs.map PyData.int).map DV.d |>.filter (fun x => match x with | .d (.int i) => decide (10 ^ 18 ≤ i) | _ => false)).map id) = (gs.map PyData.int).map DV.d := by
      refine ⟨cs.filter fun i => decide (10 ^ 18 ≤ i), ?_⟩
      rw [List.nil_append, List.map_id, List.map_map, List.map_map, List.filter_map]
      rfl
    rw [hgs]
    simp only [newL, datas_map]
    refine hN _ _ ?_
    clear hN N
    refine seq fun N hN => ?_
    walk_at "E"
    refine hN _ _ ?_
    clear hN N
    -- the seed
    refine seq fun N hN => ?_
    walk_at "E"
    refine for_by (fun _ ε s => s = st ∧ ∃ (seed : Int) (x : Option DV), 0 ≤ seed ∧ seed < 2 ^ 50 ∧ ε = [some (.d (.list (ns.map .int))), some (I k), some (.d (.list (cs.map .int))), some (.d (.list (gs.map .int))), some (I seed), x]) ⟨rfl, 71 + k, none, by omega, by omega, rfl⟩ (fun _ _ _ _ => trivial) ?_ ?_
    · rintro x ys ε s hx ⟨rfl, seed, y, s1, s2, rfl⟩ L hL
      rw [List.mem_map] at hx
      obtain ⟨z, hz, rfl⟩ := hx
      rw [List.mem_map] at hz
      obtain ⟨i, hi, rfl⟩ := hz
      walk_at "E"
      obtain ⟨r1, r2⟩ := fmod_range (i := seed * 48271 + i) (j := 2147483647) (by omega)
      exact ⟨cmul_l (by omega) (by omega), by omega, hL _ _ ⟨rfl, _, _, r1, by omega, rfl⟩⟩
    · rintro ε s ⟨rfl, seed, y, s1, s2, rfl⟩
      refine hN _ _ ?_
      clear hN N
      simp only [qRet, qDisp, qPairs]
      walk_at "E"
      have fin : ∀ l0 : Int, (∀ p, s p = none → Fg Q (.r p) (up s p (mkM l0 seed (cs ++ [53 * k + 11]) 0))) := fun l0 p hp =>
        ⟨_, Le.refl _, K p _ hp ⟨l0, seed, _, 0, up_same, by simp, by omega, by omega⟩ fun b hb => up_ne hb⟩
      have e1 : datas [DV.d (PyData.int (53 * k + 11))] = some [PyData.int (53 * k + 11)] := rfl
      have e2 : (List.map DV.d (List.map PyData.int cs) ++ List.map DV.d [PyData.int (53 * k + 11)]) = List.map DV.d (List.map PyData.int (cs ++ [53 * k + 11])) := by simp
      have e3 : datas [] = some [] := rfl
      simp only [e1, e2, e3, datas_map, eqv_nilL, shaped_nilL, shaped_LI, List.length_map, List.length_nil, List.length_singleton, true_and]
      refine ⟨by decide, ?_⟩
      by_cases hg : gs = []
      · simp only [hg, decide_true, Bool.not_true, Bool.false_eq_true, if_false]
        exact ⟨cmul_l (by omega) (by omega), by decide, by rw [sizeL]; omega, show 4 ≤ 15 by decide, fin 0⟩
      · simp only [hg, decide_false, Bool.not_false, if_true]
        cases gs with
        | nil => exact absurd rfl hg
        | cons g0 gr =>
          have e4 : atI (List.map DV.d (List.map PyData.int (g0 :: gr))) 0 = some (.d (.int g0)) := atI_map2 (j := 0) (by simp)
          simp only [e4]
          exact ⟨cmul_l (by omega) (by omega), by decide, by rw [sizeL]; omega, show 4 ≤ 15 by decide, fin g0⟩
end UC
end
section
set_option Elab.async false
set_option linter.all false
set_option maxRecDepth 100000
set_option maxHeartbeats 1000000
namespace UC
open PySem L2 DL RD
theorem draw {st : Sto} {a : Addr} {B : Nat} {below : Int} {Q : DV → Sto → Prop} (D : DrawSt st a B) (h1 : 1 ≤ below) (h2 : below < 2 ^ 30) (hB : B < 2 ^ 50)
    (k : ∀ (v : Int) st', 0 ≤ v → v < below → DrawSt st' a (B + 1) → (∀ b, b ≠ a → st' b = st b) → Q (I v) st') : sp_law_draw [.r a, I below] st Q := ⟨a, below, B, rfl, h1, h2, hB, D, k⟩
theorem begun {st : Sto} {ns : List Int} {k : Int} {Q : DV → Sto → Prop} (h1 : ns.length ≤ 63) (h2 : 0 ≤ k) (h3 : k < 2 ^ 40) (K : ∀ p st', DrawSt st' p 0 → (∀ b, b ≠ p → st' b = st b) → Q (.r p) st') : sp_law_begun [.d (.list (ns.map .int)), I k] st Q := ⟨ns, k, rfl, h1, h2, h3, fun p st' _ => K p st'⟩
/-- a comprehension whose elements draw, with the index -/
theorem comp_wordI {α : Type} (h : α → DV) {inv : Sto → Prop} {g : TDg} {te : TD} {ε : DL.Env} {Kc : List DV → Sto → Prop} (W : Nat → List DV → Sto → Prop) (hi : ∀ i acc st, W i acc st → inv st) (l : List α) (st : Sto) (w0 : W 0 [] st)
    (hx : ∀ i p acc st, l[i]? = some p → W i acc st → ∀ Q : DV → Sto → Prop, (∀ y s, W (i + 1) (acc ++ [y]) s → Q y s) → g (h p) ε st fun ε1 s1 => te ε1 s1 Q) (k : ∀ acc st, W l.length acc st → Kc acc st) : qComp inv g qYes te ε Kc (l.map h) [] st := by
  have : ∀ (r : List α) (i : Nat) acc st, l.drop i = r → i + r.length = l.length → W i acc st → qComp inv g qYes te ε Kc (r.map h) acc st := by
    intro r
    induction r with
    | nil =>
      intro i acc st hdr hlen w
      have e : i = l.length := by simpa using hlen
      subst e
      exact ⟨hi _ _ _ w, k _ _ w⟩
    | cons y r ih =>
      intro i acc st hdr hlen w
      have hx' : l[i]? = some y := by
        have := congrArg (fun z => z[0]?) hdr
        simp only [List.getElem?_drop, List.getElem?_cons_zero, Nat.add_zero] at this
        exact this
      refine ⟨hi _ _ _ w, ?_⟩
      refine hx i y acc st hx' w (fun z s3 => qComp inv g qYes te ε Kc (r.map h) (acc ++ [z]) s3) fun z s w' => ?_
      refine ih (i + 1) (acc ++ [z]) s ?_ (by simp only [List.length_cons] at hlen; omega) w'
      rw [← List.drop_drop, hdr]
      rfl
  exact this l 0 [] st rfl (by simp) w0
theorem range_some {n i p : Nat} (h : (List.range n)[i]? = some p) : p = i ∧ i < n := by
  by_cases hlt : i < n
  · rw [List.getElem?_range hlt] at h
    cases h
    exact ⟨rfl, hlt⟩
  · rw [List.getElem?_eq_none (by rw [List.length_range]; omega)] at h
    cases h
theorem kitB_tt : kitB "tuple" "tuple" = some true := by decide +kernel
theorem kitB_ll : kitB "list" "list" = some true := by decide +kernel
theorem kitB_dd : kitB "dict" "dict" = some true := by decide +kernel
theorem kitB_bb : kitB "bool" "bool" = some true := by decide +kernel
theorem kitB_ib : kitB "int" "bool" = some false := by decide +kernel
theorem kitB_ii : kitB "int" "int" = some true := by decide +kernel
theorem kitB_ss : kitB "str" "str" = some true := by decide +kernel
theorem kitB_tl : kitB "tuple" "list" = some false := by decide +kernel
theorem kitB_lt : kitB "list" "tuple" = some false := by decide +kernel
/-- reading of a cell -/
def gd (a : List Int) (j : Nat) : Int := a.getD j 0
theorem gd_eq {a : List Int} {j : Nat} (h : j < a.length) : a[j] = gd a j := by
  unfold gd
  rw [List.getD_eq_getElem?_getD, List.getElem?_eq_getElem h]
  rfl
theorem atI_gd {a : List Int} {j : Nat} (h : j < a.length) : atI (List.map DV.d (List.map PyData.int a)) (j : Int) = some (I (gd a j)) := by
  rw [atI_map2 (f := PyData.int) h, gd_eq h]
theorem range_gd (a : List Int) : (List.range a.length).map (gd a) = a := by
  refine List.ext_getElem (by simp) fun i h1 h2 => ?_
  rw [List.getElem_map, List.getElem_range, gd_eq h2]
theorem range_zw {f : Int → Int → Int} {a b : List Int} {n : Nat} (ha : a.length = n) (hb : b.length = n) : (List.range n).map (fun j => f (gd a j) (gd b j)) = List.zipWith f a b := by
  refine List.ext_getElem (by simp; omega) fun i h1 h2 => ?_
  rw [List.getElem_map, List.getElem_range, List.getElem_zipWith, gd_eq, gd_eq]
theorem zip_range {a b : List Int} {n : Nat} (ha : a.length = n) (hb : b.length = n) : a.zip b = (List.range n).map fun j => (gd a j, gd b j) := by
  refine List.ext_getElem (by simp; omega) fun i h1 h2 => ?_
  rw [List.getElem_map, List.getElem_range, List.getElem_zip, gd_eq, gd_eq]
theorem zipIdx_range (a : List Int) : a.zipIdx = (List.range a.length).map fun j => (gd a j, j) := by
  refine List.ext_getElem (by simp) fun i h1 h2 => ?_
  rw [List.getElem_map, List.getElem_range, List.getElem_zipIdx, Nat.zero_add, gd_eq]
theorem gd_mem {a : List Int} {j : Nat} (h : j < a.length) : gd a j ∈ a := by
  rw [← gd_eq h]
  exact List.getElem_mem h
theorem rngD0 (n : Nat) : rngD 0 n = (List.range n).map fun (j : Nat) => I (j : Int) := by
  unfold rngD
  refine List.map_congr_left fun j _ => ?_
  rw [Int.zero_add]
theorem gd_ext {a b : List Int} {n : Nat} (ha : a.length = n) (hb : b.length = n) : a = b ↔ ∀ j < n, gd a j = gd b j := by
  constructor
  · rintro rfl j hj
    rfl
  · intro h
    rw [← range_gd a, ← range_gd b, ha, hb]
    exact List.map_congr_left fun j hj => h j (List.mem_range.mp hj)
theorem gd_zw {f : Int → Int → Int} {a b : List Int} {n j : Nat} (ha : a.length = n) (hb : b.length = n) (hj : j < n) : gd (List.zipWith f a b) j = f (gd a j) (gd b j) := by
  rw [← gd_eq (by rw [List.length_zipWith]; omega), List.getElem_zipWith, gd_eq, gd_eq]
theorem gd_rep {n j : Nat} {x : Int} (hj : j < n) : gd (List.replicate n x) j = x := by
  rw [← gd_eq (by rw [List.length_replicate]; exact hj), List.getElem_replicate]
theorem len_zw {f : Int → Int → Int} {a b : List Int} {n : Nat} (ha : a.length = n) (hb : b.length = n) : (List.zipWith f a b).length = n := by
  rw [List.length_zipWith]; omega
theorem filter_nil {α : Type} {l : List α} {p : α → Bool} : l.filter p = [] ↔ ∀ x ∈ l, p x = false := by
  rw [List.filter_eq_nil_iff]
  constructor
  · intro h x hx
    exact Bool.eq_false_iff.mpr (h x hx)
  · intro h x hx e
    rw [h x hx] at e
    cases e
theorem bool_dec {b : Bool} {p : Prop} [Decidable p] (h : b = true ↔ p) : b = decide p := by
  cases b with
  | true => exact (decide_eq_true (h.mp rfl)).symm
  | false => exact (decide_eq_false fun hp => Bool.false_ne_true (h.mpr hp)).symm
theorem flat_rep {α : Type} (n : Nat) (x : α) : (List.replicate n [x]).flatten = List.replicate n x := by
  induction n with
  | zero => rfl
  | succ n ih => rw [List.replicate_succ, List.flatten_cons, ih]; rfl
theorem rep_I (n : Nat) (x : Int) : mkT (List.replicate n [I x]).flatten = .d (TI (List.replicate n x)) := by
  rw [flat_rep, ← List.map_replicate (f := I), show (List.map I (List.replicate n x)) = (List.map PyData.int (List.replicate n x)).map DV.d by rw [List.map_map]; rfl, mkT_map]
theorem turns (l : Nat) (m M : Int) (h : 0 ≤ m) (hM : m ≤ M) : ∃ t : Nat, (if (if M < (l : Int) then M else (l : Int)) > m then (if M < (l : Int) then M else (l : Int)) else m) = (t : Int) ∧ (t : Int) ≤ M := by
  refine ⟨(if (if M < (l : Int) then M else (l : Int)) > m then (if M < (l : Int) then M else (l : Int)) else m).toNat, ?_, ?_⟩ <;> split <;> split <;> omega
theorem le_size4 : (0 + 1 + 1 + 1 + 1 ≤ sizeLine) = True := by decide
theorem I_eq (i : Int) : I i = .d (.int i) := rfl
theorem Bo_eq (i : Bool) : Bo i = .d (.bool i) := rfl
theorem ints_dv {α : Type} (f : α → Int) (l : List α) : List.map (fun x => I (f x)) l = ((l.map f).map PyData.int).map DV.d := by
  rw [List.map_map, List.map_map]
  rfl
theorem ints_dv0 {α : Type} (f : α → Int) (l : List α) : [] ++ List.map (fun x => I (f x)) l = ((l.map f).map PyData.int).map DV.d := by
  rw [List.nil_append, ints_dv]
end UC
end
section
set_option Elab.async false
set_option linter.all false
set_option maxRecDepth 100000
set_option maxHeartbeats 1000000
namespace UC
open PySem L2 DL RD
def divB (a b : List Int) : Bool := (a.zip b).all fun p => decide (p.1 ≤ p.2)
def lcmL (a b : List Int) : List Int := List.zipWith max a b
def mulL (a b : List Int) : List Int := List.zipWith (· + ·) a b
def cutL (a b : List Int) : List Int := List.zipWith (fun x y => max (x - y) 0) a b
/-- a monomial of n variables, its exponents at most w -/
def Mon (n : Nat) (w : Int) (a : List Int) : Prop := a.length = n ∧ ∀ x ∈ a, 0 ≤ x ∧ x ≤ w
theorem Mon.mono {n : Nat} {w w' : Int} {a : List Int} (h : Mon n w a) (hw : w ≤ w') : Mon n w' a := ⟨h.1, fun x hx => ⟨(h.2 x hx).1, Int.le_trans (h.2 x hx).2 hw⟩⟩
theorem Mon.bd {n : Nat} {w : Int} {a : List Int} (h : Mon n w a) : TS.Bd (w + 1) a := fun x hx => ⟨(h.2 x hx).1, by have := (h.2 x hx).2; omega⟩
theorem divB_iff {a b : List Int} {n : Nat} (ha : a.length = n) (hb : b.length = n) : divB a b = true ↔ ∀ j < n, gd a j ≤ gd b j := by
  unfold divB
  rw [zip_range ha hb, List.all_eq_true]
  constructor
  · intro h j hj
    exact of_decide_eq_true (h _ (List.mem_map.mpr ⟨j, List.mem_range.mpr hj, rfl⟩))
  · intro h x hx
    obtain ⟨j, hj, rfl⟩ := List.mem_map.mp hx
    exact decide_eq_true (h j (List.mem_range.mp hj))
theorem divB_refl (a : List Int) : divB a a = true := (divB_iff rfl rfl).mpr fun j _ => Int.le_refl _
theorem divB_trans {a b c : List Int} {n : Nat} (ha : a.length = n) (hb : b.length = n) (hc : c.length = n) (h1 : divB a b = true) (h2 : divB b c = true) : divB a c = true :=
  (divB_iff ha hc).mpr fun j hj => Int.le_trans ((divB_iff ha hb).mp h1 j hj) ((divB_iff hb hc).mp h2 j hj)
theorem divB_anti {a b : List Int} {n : Nat} (ha : a.length = n) (hb : b.length = n) (h1 : divB a b = true) (h2 : divB b a = true) : a = b :=
  (gd_ext ha hb).mpr fun j hj => Int.le_antisymm ((divB_iff ha hb).mp h1 j hj) ((divB_iff hb ha).mp h2 j hj)
theorem divB_lex : ∀ {a b : List Int}, a.length = b.length → divB a b = true → a = b ∨ lexL a b = true
  | [], [], _, _ => .inl rfl
  | x :: a, y :: b, hl, h => by
    simp only [divB, List.zip_cons_cons, List.all_cons, Bool.and_eq_true, decide_eq_true_eq] at h
    have hl' : a.length = b.length := by simpa using hl
    simp only [lexL, Bool.or_eq_true, Bool.and_eq_true, decide_eq_true_eq, List.cons.injEq]
    by_cases e : x = y
    · rcases divB_lex hl' h.2 with k | k
      · exact .inl ⟨e, k⟩
      · exact .inr (.inr ⟨e, k⟩)
    · exact .inr (.inl (by omega))
/-- those that no other one divides, sorted -/
def minL (S : List (List Int)) : List (List Int) := (sortU S).filter fun a => decide ((sortU S).filter (fun b => decide (b ≠ a) && divB b a) = [])
def stepL (acc : List (List Int)) (m : List Int) : List (List Int) := if (acc.map fun o => divB o m).any id = true then acc else acc ++ [m]
structure Mins (S R : List (List Int)) : Prop where
  ris : RisL R
  sub : ∀ r ∈ R, r ∈ S
  cov : ∀ s ∈ S, ∃ r ∈ R, divB r s = true
  anti : ∀ r ∈ R, ∀ r' ∈ R, divB r r' = true → r = r'
theorem mins_minL {S : List (List Int)} {n : Nat} (hS : ∀ s ∈ S, s.length = n) : Mins S (minL S) := by
  have hq : ∀ s ∈ sortU S, s.length = n := fun s hs => hS s (mem_sortU.mp hs)
  refine ⟨(ris_sortU S).sublist List.filter_sublist, fun r hr => mem_sortU.mp (List.mem_filter.mp hr).1, fun s hs => ?_, fun r hr r' hr' h => ?_⟩
  · have hT : RisL ((sortU S).filter fun b => divB b s) := (ris_sortU S).sublist List.filter_sublist
    have hs' : s ∈ (sortU S).filter fun b => divB b s := List.mem_filter.mpr ⟨mem_sortU.mpr hs, divB_refl s⟩
    cases e : (sortU S).filter (fun b => divB b s) with
    | nil => rw [e] at hs'; cases hs'
    | cons r T =>
      have hr : r ∈ (sortU S).filter fun b => divB b s := by rw [e]; exact List.mem_cons_self
      obtain ⟨r1, r2⟩ := List.mem_filter.mp hr
      refine ⟨r, List.mem_filter.mpr ⟨r1, decide_eq_true ?_⟩, r2⟩
      rw [List.filter_eq_nil_iff]
      intro b hb hh
      simp only [Bool.and_eq_true, decide_eq_true_eq] at hh
      have hb2 : b ∈ (sortU S).filter fun b => divB b s := List.mem_filter.mpr ⟨hb, divB_trans (hq b hb) (hq r r1) (hS s hs) hh.2 r2⟩
      rw [e] at hb2 hT
      rcases List.mem_cons.mp hb2 with z | z
      · exact hh.1 z
      · have k1 := (List.pairwise_cons.mp hT).1 b z
        rcases divB_lex ((hq b hb).trans (hq r r1).symm) hh.2 with k | k
        · exact hh.1 k
        · have := lexL_tr k1 k
          rw [lexL_irr] at this
          cases this
  · obtain ⟨a1, a2⟩ := List.mem_filter.mp hr
    obtain ⟨b1, b2⟩ := List.mem_filter.mp hr'
    have := List.filter_eq_nil_iff.mp (of_decide_eq_true b2) r a1
    simp only [Bool.and_eq_true, decide_eq_true_eq, not_and] at this
    exact Classical.byContradiction fun hne => this hne h
theorem mins_fold {n : Nat} : ∀ (post acc pre : List (List Int)), RisL (pre ++ post) → (∀ s ∈ pre ++ post, s.length = n) → Mins pre acc → Mins (pre ++ post) (post.foldl stepL acc)
  | [], acc, pre, _, _, h => by rw [List.append_nil]; exact h
  | m :: post, acc, pre, hr, hl, h => by
    have e : pre ++ m :: post = (pre ++ [m]) ++ post := by simp
    have hm : m.length = n := hl m (by simp)
    rw [e] at hr hl ⊢
    refine mins_fold post (stepL acc m) (pre ++ [m]) hr hl ?_
    have hlex : ∀ r ∈ acc, lexL r m = true := fun r hr' => by
      have := (List.pairwise_append.mp hr).1
      exact (List.pairwise_append.mp this).2.2 r (h.sub r hr') m (List.mem_singleton.mpr rfl)
    have hla : ∀ r ∈ acc, r.length = n := fun r hr' => hl r (List.mem_append_left _ (List.mem_append_left _ (h.sub r hr')))
    unfold stepL
    by_cases ha : (acc.map fun o => divB o m).any id = true
    · rw [if_pos ha]
      refine ⟨h.ris, fun r hr' => List.mem_append_left _ (h.sub r hr'), fun s hs => ?_, h.anti⟩
      rcases List.mem_append.mp hs with hs | hs
      · exact h.cov s hs
      · rw [List.mem_singleton.mp hs]
        obtain ⟨b, hb, hb2⟩ := List.any_eq_true.mp ha
        obtain ⟨r, hr', rfl⟩ := List.mem_map.mp hb
        exact ⟨r, hr', hb2⟩
    · rw [if_neg ha]
      have hno : ∀ r ∈ acc, divB r m = false := fun r hr' => Bool.eq_false_iff.mpr fun z => ha (List.any_eq_true.mpr ⟨true, List.mem_map.mpr ⟨r, hr', z⟩, rfl⟩)
      refine ⟨List.pairwise_append.mpr ⟨h.ris, List.pairwise_singleton _ _, fun a ha b hb => by rw [List.mem_singleton.mp hb]; exact hlex a ha⟩, fun r hr' => ?_, fun s hs => ?_, fun r hr' r' hr'' hd => ?_⟩
      · rcases List.mem_append.mp hr' with z | z
        · exact List.mem_append_left _ (h.sub r z)
        · exact List.mem_append_right _ z
      · rcases List.mem_append.mp hs with hs | hs
        · obtain ⟨r, h1, h2⟩ := h.cov s hs
          exact ⟨r, List.mem_append_left _ h1, h2⟩
        · exact ⟨s, List.mem_append_right _ hs, divB_refl s⟩
      · rcases List.mem_append.mp hr' with z | z <;> rcases List.mem_append.mp hr'' with z' | z'
        · exact h.anti r z r' z' hd
        · rw [List.mem_singleton.mp z', hno r z] at hd
          cases hd
        · have zz := List.mem_singleton.mp z
          subst zz
          rcases divB_lex (hm.trans (hla r' z').symm) hd with k | k
          · exact k
          · have := lexL_tr k (hlex r' z')
            rw [lexL_irr] at this
            cases this
        · rw [List.mem_singleton.mp z, List.mem_singleton.mp z']
theorem mins_uniq {S R S' R' : List (List Int)} {n : Nat} (hS : ∀ s ∈ S, s.length = n) (hS' : ∀ s ∈ S', s.length = n) (h : Mins S R) (h' : Mins S' R') (c : ∀ s ∈ S, ∃ s' ∈ S', divB s' s = true) (c' : ∀ s ∈ S', ∃ s' ∈ S, divB s' s = true) : R = R' := by
  have key : ∀ {S R S' R' : List (List Int)}, (∀ s ∈ S, s.length = n) → (∀ s ∈ S', s.length = n) → Mins S R → Mins S' R' → (∀ s ∈ S, ∃ s' ∈ S', divB s' s = true) → (∀ s ∈ S', ∃ s' ∈ S, divB s' s = true) → ∀ r ∈ R, r ∈ R' := by
    intro S R S' R' hS hS' h h' c c' r hr
    obtain ⟨s', hs', d1⟩ := c r (h.sub r hr)
    obtain ⟨r', hr', d2⟩ := h'.cov s' hs'
    obtain ⟨s, hs, d3⟩ := c' r' (h'.sub r' hr')
    obtain ⟨q, hq, d4⟩ := h.cov s hs
    have lr := hS r (h.sub r hr)
    have ls' := hS' s' hs'
    have lr' := hS' r' (h'.sub r' hr')
    have ls := hS s hs
    have lq := hS q (h.sub q hq)
    have d5 : divB q r' = true := divB_trans lq ls lr' d4 d3
    have d6 : divB r' r = true := divB_trans lr' ls' lr d2 d1
    have e : q = r := h.anti q hq r hr (divB_trans lq lr' lr d5 d6)
    subst e
    rw [divB_anti lr lr' d5 d6]
    exact hr'
  exact ris_eq h.ris h'.ris fun x => ⟨key hS hS' h h' c c' x, key hS' hS h' h c' c x⟩
theorem fold_min {S : List (List Int)} {n : Nat} (hS : ∀ s ∈ S, s.length = n) : (sortU S).foldl stepL [] = minL S := by
  have hq : ∀ s ∈ sortU S, s.length = n := fun s hs => hS s (mem_sortU.mp hs)
  have h := mins_fold (n := n) (sortU S) [] [] (ris_sortU S) hq ⟨List.Pairwise.nil, (fun r hr => nomatch hr), (fun s hs => nomatch hs), (fun r hr => nomatch hr)⟩
  exact mins_uniq hq hS h (mins_minL hS) (fun s hs => ⟨s, mem_sortU.mp hs, divB_refl s⟩) fun s hs => ⟨s, mem_sortU.mpr hs, divB_refl s⟩
theorem min_cong {S S' : List (List Int)} {n : Nat} (hS : ∀ s ∈ S, s.length = n) (hS' : ∀ s ∈ S', s.length = n) (c : ∀ s ∈ S, ∃ s' ∈ S', divB s' s = true) (c' : ∀ s ∈ S', ∃ s' ∈ S, divB s' s = true) : minL S = minL S' := mins_uniq hS hS' (mins_minL hS) (mins_minL hS') c c'
theorem min_sub {S : List (List Int)} : ∀ r ∈ minL S, r ∈ S := fun r hr => mem_sortU.mp (List.mem_filter.mp hr).1
theorem min_idem {S : List (List Int)} {n : Nat} (hS : ∀ s ∈ S, s.length = n) : minL (minL S) = minL S :=
  min_cong (fun s hs => hS s (min_sub s hs)) hS (fun s hs => ⟨s, min_sub s hs, divB_refl s⟩) (mins_minL hS).cov
theorem min_len (S : List (List Int)) : (minL S).length ≤ S.length := Nat.le_trans (List.length_filter_le _ _) (sortU_len S)
def inL (L : List (List Int)) (c : List Int) : Bool := L.any fun g => divB g c
theorem inL_iff {L : List (List Int)} {c : List Int} : inL L c = true ↔ ∃ g ∈ L, divB g c = true := List.any_eq_true
theorem in_min {S : List (List Int)} {n : Nat} {c : List Int} (hS : ∀ s ∈ S, s.length = n) (hc : c.length = n) : inL (minL S) c = true ↔ ∃ g ∈ S, divB g c = true := by
  rw [inL_iff]
  constructor
  · rintro ⟨g, h1, h2⟩
    exact ⟨g, min_sub g h1, h2⟩
  · rintro ⟨g, h1, h2⟩
    obtain ⟨r, h3, h4⟩ := (mins_minL hS).cov g h1
    exact ⟨r, h3, divB_trans (hS r (min_sub r h3)) (hS g h1) hc h4 h2⟩
theorem tints_TI (ts : List (List Int)) : tints ((ts.map TI).map DV.d) = some ts := tints_map ts
theorem dv_TI (l : List (List Int)) : (l.map fun a => DV.d (.tuple (a.map .int))) = (l.map TI).map DV.d := by
  rw [List.map_map]
  rfl
theorem tis_dv0 (l : List (List Int)) : [] ++ (l.map fun a => DV.d (TI a)) = (l.map TI).map DV.d := dv_TI l
theorem comp2_T {α : Type} (h : α → DV) (F : α → List DV) (M : Nat) {inv : Sto → Prop} {g g1 : TDg} {tt tt1 : TDt} {ti1 : TDi} {te : TD} {vs1 : List Nat} {ε : DL.Env} {Kc : List DV → Sto → Prop} {st : Sto} (hi : inv st) : ∀ (l : List α) (acc : List DV),
    (∀ a ∈ l, ∀ (acc : List DV) (Kc : List DV → Sto → Prop), acc.length ≤ M → Kc (acc ++ F a) st → g (h a) ε st fun ε1 s1 => tt ε1 s1 fun b s2 => if b = true then ti1 ε1 s2 fun items1 inv1 s3 => acc.length + items1.length ≤ sizeLine ∧ qComp inv1 g1 tt1 te (wipeD ε1 vs1) Kc items1 acc s3 else Kc acc s2) →
    (acc ++ l.flatMap F).length ≤ M → Kc (acc ++ l.flatMap F) st → qCompO inv g tt ti1 g1 tt1 te vs1 ε Kc (l.map h) acc st
  | [], acc, _, _, k => ⟨hi, by simpa using k⟩
  | x :: xs, acc, hx, hM, k => by
    have e : acc ++ (x :: xs).flatMap F = (acc ++ F x) ++ xs.flatMap F := by rw [List.flatMap_cons, List.append_assoc]
    rw [e] at hM k
    refine ⟨hi, hx x List.mem_cons_self acc (fun acc' s4 => qCompO inv g tt ti1 g1 tt1 te vs1 ε Kc (xs.map h) acc' s4) ?_ ?_⟩
    · simp only [List.length_append] at hM
      omega
    · exact comp2_T h F M hi xs (acc ++ F x) (fun y hy => hx y (List.mem_cons_of_mem _ hy)) hM k
theorem atI_0 {α : Type} (x : α) (l : List α) : atI (x :: l) 0 = some x := atI_nat (j := 0) rfl
theorem atI_1 {α : Type} (x y : α) (l : List α) : atI (x :: y :: l) 1 = some y := atI_nat (j := 1) rfl
theorem atI_2 {α : Type} (x y z : α) (l : List α) : atI (x :: y :: z :: l) 2 = some z := atI_nat (j := 2) rfl
theorem mk_app (a b : List PyData) : mkT (a.map .d ++ b.map .d) = .d (.tuple (a ++ b)) := by
  rw [← List.map_append, mkT_map]
theorem mk_appT (a b : List (List Int)) : mkT ((a.map TI).map .d ++ (b.map TI).map .d) = .d (TT (a ++ b)) := by
  rw [mk_app, ← List.map_append]
theorem mk_snocI (a : List Int) (k : Int) : mkT ((a.map PyData.int).map .d ++ [.d (.int k)]) = .d (TI (a ++ [k])) := by
  have := mk_app (a.map .int) [.int k]
  rw [show TI (a ++ [k]) = .tuple (a.map .int ++ [.int k]) by simp [TI], ← this]
  rfl
@[reducible] def idl (n : Nat) (l : List (List Int)) : PyData := .tuple [.int n, TT l]
theorem size_of {n m : Nat} (h : n ≤ m) (hm : m ≤ 100000) : n ≤ sizeLine := by rw [sizeL]; omega
theorem sitems_le {st st' : Sto} {x : DV} {l : List DV} (h : sitems st x = some l) (hl : Le st st') : sitems st' x = some l := by
  cases x with
  | d z => cases z <;> exact h
  | t ys => exact h
  | r a =>
    simp only [sitems, titems, litems] at h ⊢
    cases e : st a with
    | none => rw [e] at h; cases h
    | some m => rw [hl a m e]; rw [e] at h; exact h
theorem le_up {st st' : Sto} {p : Addr} (h0 : st p = none) (h : ∀ b, b ≠ p → st' b = st b) : Le st st' := fun a m e => by
  rw [h a (fun z => by rw [z, h0] at e; cases e)]
  exact e
theorem le_up1 {st : Sto} {p : Addr} {m : MO} (h0 : st p = none) : Le st (up st p m) := le_up h0 fun b hb => up_ne hb
theorem src_of2 {st : Sto} {x : DV} {l : List DV} (h : sitems st x = some l) : ∃ inv : Sto → Prop, seqSrc st x = some (l, inv) ∧ ∀ s', sitems s' x = some l → inv s' := by
  cases x with
  | d z =>
    cases z with
    | tuple ds => cases h; exact ⟨_, rfl, fun _ _ => trivial⟩
    | list ds => cases h; exact ⟨_, rfl, fun _ _ => trivial⟩
    | _ => cases h
  | t ys => cases h; exact ⟨_, rfl, fun _ _ => trivial⟩
  | r a =>
    have key : ∀ s', sitems s' (.r a) = some l → s' a = some (.lst l) := fun s' h => by
      simp only [sitems, titems, litems] at h
      cases e : s' a with
      | none => rw [e] at h; cases h
      | some m =>
        rw [e] at h
        cases m with
        | lst xs => cases h; rfl
        | _ => cases h
    exact ⟨fun s' => s' a = some (.lst l), by simp only [seqSrc, titems, lsrc, key st h], key⟩
theorem fg_le {Q : DV → Sto → Prop} {x : DV} {st st' : Sto} (hl : Le st st') (h : Q x st) : Fg Q x st' := ⟨st, hl, h⟩
def boxL (tops : List Int) : List (List Int) := tops.foldl (fun F t => F.flatMap fun a => (List.range (t + 1).toNat).map fun (k : Nat) => a ++ [(k : Int)]) [[]]
theorem gd_app_l {a b : List Int} {j : Nat} (h : j < a.length) : gd (a ++ b) j = gd a j := by
  unfold gd
  rw [List.getD_eq_getElem?_getD, List.getD_eq_getElem?_getD, List.getElem?_append_left h]
theorem gd_app_one {a : List Int} {x : Int} : gd (a ++ [x]) a.length = x := by
  unfold gd
  rw [List.getD_eq_getElem?_getD, List.getElem?_append_right (Nat.le_refl _), Nat.sub_self]
  rfl
theorem mem_boxL {tops c : List Int} : c ∈ boxL tops ↔ c.length = tops.length ∧ ∀ j < tops.length, 0 ≤ gd c j ∧ gd c j ≤ gd tops j := by
  unfold boxL
  have key : ∀ (ts pre : List Int) (F : List (List Int)), (∀ c, c ∈ F ↔ c.length = pre.length ∧ ∀ j < pre.length, 0 ≤ gd c j ∧ gd c j ≤ gd pre j) →
      ∀ c, c ∈ ts.foldl (fun F t => F.flatMap fun a => (List.range (t + 1).toNat).map fun (k : Nat) => a ++ [(k : Int)]) F ↔ c.length = (pre ++ ts).length ∧ ∀ j < (pre ++ ts).length, 0 ≤ gd c j ∧ gd c j ≤ gd (pre ++ ts) j := by
    intro ts
    induction ts with
    | nil => intro pre F h c; rw [List.append_nil]; exact h c
    | cons t ts ih =>
      intro pre F h c
      have e : pre ++ t :: ts = (pre ++ [t]) ++ ts := by simp
      rw [e, List.foldl_cons]
      refine ih (pre ++ [t]) _ (fun d => ?_) c
      rw [List.mem_flatMap]
      constructor
      · rintro ⟨a, ha, hd⟩
        obtain ⟨k, hk, rfl⟩ := List.mem_map.mp hd
        rw [List.mem_range] at hk
        obtain ⟨h1, h2⟩ := (h a).mp ha
        refine ⟨by simp [h1], fun j hj => ?_⟩
        by_cases z : j < pre.length
        · rw [gd_app_l (by omega), gd_app_l z]
          exact h2 j z
        · have : j = pre.length := by simp at hj; omega
          subst this
          rw [gd_app_one, ← h1, gd_app_one]
          omega
      · rintro ⟨h1, h2⟩
        rw [List.length_append, List.length_singleton] at h1 h2
        have hd : d = d.take pre.length ++ [gd d pre.length] := by
          refine List.ext_getElem? fun i => ?_
          by_cases z : i < pre.length
          · rw [List.getElem?_append_left (by simp; omega), List.getElem?_take_of_lt z]
          · by_cases y : i = pre.length
            · subst y
              rw [List.getElem?_append_right (by rw [List.length_take]; omega), List.length_take, Nat.min_eq_left (by omega), Nat.sub_self, List.getElem?_eq_getElem (by omega), gd_eq (by omega)]
              rfl
            · rw [List.getElem?_eq_none (by omega), List.getElem?_eq_none (by simp; omega)]
        refine ⟨d.take pre.length, (h _).mpr ⟨by simp; omega, fun j hj => ?_⟩, ?_⟩
        · have := h2 j (by omega)
          rw [gd_app_l hj] at this
          have e3 : gd (d.take pre.length) j = gd d j := by
            unfold gd
            rw [List.getD_eq_getElem?_getD, List.getD_eq_getElem?_getD, List.getElem?_take_of_lt hj]
          rw [e3]
          exact this
        · have := h2 pre.length (by omega)
          rw [gd_app_one] at this
          refine List.mem_map.mpr ⟨(gd d pre.length).toNat, List.mem_range.mpr (by omega), ?_⟩
          rw [show (((gd d pre.length).toNat : Nat) : Int) = gd d pre.length by omega]
          exact hd.symm
  have := key tops [] [[]] (fun c => by simp) c
  simpa using this
theorem box_len : ∀ (tops : List Int) (w : Nat), (∀ t ∈ tops, (t + 1).toNat ≤ w) → (boxL tops).length ≤ w ^ tops.length := by
  intro tops w h
  unfold boxL
  have key : ∀ (ts : List Int) (F : List (List Int)) (k : Nat), (∀ t ∈ ts, (t + 1).toNat ≤ w) → F.length ≤ w ^ k → (ts.foldl (fun F t => F.flatMap fun a => (List.range (t + 1).toNat).map fun (k : Nat) => a ++ [(k : Int)]) F).length ≤ w ^ (k + ts.length) := by
    intro ts
    induction ts with
    | nil => intro F k _ hF; exact hF
    | cons t ts ih =>
      intro F k ht hF
      rw [List.foldl_cons, List.length_cons, show k + (ts.length + 1) = (k + 1) + ts.length by omega]
      refine ih _ (k + 1) (fun x hx => ht x (List.mem_cons_of_mem _ hx)) ?_
      have : ∀ F : List (List Int), (F.flatMap fun a => (List.range (t + 1).toNat).map fun (k : Nat) => a ++ [(k : Int)]).length = F.length * (t + 1).toNat := by
        intro F
        induction F with
        | nil => simp
        | cons a F ih => rw [List.flatMap_cons, List.length_append, ih, List.length_map, List.length_range, List.length_cons, Nat.succ_mul, Nat.add_comm]
      rw [this, Nat.pow_succ]
      exact Nat.mul_le_mul hF (ht t List.mem_cons_self)
  have := key tops [[]] 0 h (by simp)
  simpa using this
end UC
end
section
set_option Elab.async false
set_option linter.all false
set_option maxRecDepth 100000
set_option maxHeartbeats 1000000
open PySem L2 DL
local macro_rules | `(tactic| walk_at "E") => `(tactic| (try simp only [qAsg, qRet, qDrop, qIfS, qTest, qAndT, qOrT, qNotT, qAndV, qOrV, qNotV, qIf, qOp, qUn, qChain, onB, qv, qc, qgN, qgT, qgCons, qgNil, qCons, qNil, qTup, qLst, qPar, qPar3, qAug, qCB, qCall, qLen, qTupleC, qListC, qMax2, qMin2, qIntC, qSum, qAny, qAll, qIsi, tyName, qAdd, qSub, qMul, qFdiv, qMod, qPow, qI2, qCmpI, qEq, qNe, qLt, qLe, qGt, qGe, qNeg, qIx, qDGet, qDIn, qDPut, qSl, qPart, qNoPart, qNext, qFor, qiSeq, qiRng1, qiRng2, qiZip, qiEnum, qLc, seqSrc, lsrc, titems, litems, sitems, fz, newL, List.getElem?_cons_zero, List.getElem?_cons_succ, List.set_cons_zero, List.set_cons_succ, if_true, if_false, Bool.false_eq_true, ite_true, ite_false, up_same, reduceIte, decide_true, decide_false, true_and, and_true]))
namespace UC
open PySem L2 DL RD
def sp_divides : SpD := fun xs st Q => ∃ a b : List Int, xs = [.d (TI a), .d (TI b)] ∧ Q (Bo (divB a b)) st
def spZ (f : List Int → List Int → List Int) : SpD := fun xs st Q => ∃ a b : List Int, xs = [.d (TI a), .d (TI b)] ∧ a.length ≤ 1000 ∧ Q (.d (TI (f a b))) st
abbrev sp_lcm_of : SpD := spZ lcmL
abbrev sp_times : SpD := spZ mulL
abbrev sp_cut : SpD := spZ cutL
theorem len_divides : ∀ xs st Q, sp_divides xs st Q → xs.length = 2 := by rintro xs st Q ⟨a, b, rfl, _⟩; rfl
theorem lenZ {f : List Int → List Int → List Int} : ∀ xs st Q, spZ f xs st Q → xs.length = 2 := by rintro xs st Q ⟨a, b, rfl, _⟩; rfl
theorem len_lcm_of : ∀ xs st Q, sp_lcm_of xs st Q → xs.length = 2 := lenZ
theorem len_times : ∀ xs st Q, sp_times xs st Q → xs.length = 2 := lenZ
theorem len_cut : ∀ xs st Q, sp_cut xs st Q → xs.length = 2 := lenZ
/-- the items of a zip of two monomials -/
theorem zipD_ints : ∀ a b : List Int, zipD ((a.map PyData.int).map DV.d) ((b.map PyData.int).map DV.d) = (a.zip b).map fun p => DV.d (.tuple [.int p.1, .int p.2])
  | [], _ => rfl
  | _ :: _, [] => rfl
  | x :: a, y :: b => by
    have ih := zipD_ints a b
    unfold zipD at ih ⊢
    rw [List.map_cons, List.map_cons, List.map_cons, List.map_cons, List.zipWith_cons_cons, ih, List.zip_cons_cons, List.map_cons]
    rfl
theorem semZ_of {f : List Int → List Int → List Int} {fe : Int → Int → Int} {te : TD} (hf : f = List.zipWith fe)
    (he : ∀ (a b : DV) (x y : Int) (st : Sto) (Q : DV → Sto → Prop), Q (I (fe x y)) st → te [some a, some b, some (I x), some (I y)] st Q) :
    ∀ xs st Q, spZ f xs st Q → (qRet (qCB qTupleC (qCons (qLc false (qiZip (qCons (qv 0) (qCons (qv 1) qNil))) (qgT 2 (qgCons (qgN 2) (qgCons (qgN 3) qgNil))) qYes te [2, 3]) qNil))) { nx := fun _ st' => Fg Q (.d .none) st', rt := Fg Q } (startD 4 xs) st := by
  rintro xs st Q ⟨a, b, rfl, hl, K⟩
  have e0 : startD 4 [.d (TI a), .d (TI b)] = [some (.d (TI a)), some (.d (TI b)), none, none] := rfl
  rw [e0]
  walk_at "E"
  rw [zipD_ints]
  refine ⟨by rw [List.length_map, List.length_zip, sizeL]; omega, ?_⟩
  refine comp_mapT _ (fun p => I (fe p.1 p.2)) trivial _ _ ?_ ?_
  · intro p hp Q1 h
    simp only [wipeD]
    walk_at "E"
    simp only [List.map_cons, List.map_nil, List.length_cons, List.length_nil]
    walk_at "E"
    exact he _ _ _ _ _ _ h
  · have e1 : [] ++ ((a.zip b).map fun p => I (fe p.1 p.2)) = ((f a b).map PyData.int).map DV.d := by
      rw [hf, List.nil_append, ← List.map_uncurry_zip_eq_zipWith, List.map_map, List.map_map]
      rfl
    rw [e1]
    simp only [datas_map]
    walk_at "E"
    rw [mkT_map]
    exact fg_ret K
theorem sem_lcm_of : ∀ xs st Q, sp_lcm_of xs st Q → rd_lcm_of { nx := fun _ st' => Fg Q (.d .none) st', rt := Fg Q } (startD 4 xs) st :=
  semZ_of (fe := max) rfl fun a b x y st Q h => by
    walk_at "E"
    rw [show (if y > x then y else x) = max x y by rw [Int.max_def]; split <;> split <;> omega]
    exact h
theorem sem_times : ∀ xs st Q, sp_times xs st Q → rd_times { nx := fun _ st' => Fg Q (.d .none) st', rt := Fg Q } (startD 4 xs) st :=
  semZ_of (fe := (· + ·)) rfl fun a b x y st Q h => by
    walk_at "E"
    exact h
theorem sem_cut : ∀ xs st Q, sp_cut xs st Q → rd_cut { nx := fun _ st' => Fg Q (.d .none) st', rt := Fg Q } (startD 4 xs) st :=
  semZ_of (fe := fun x y => max (x - y) 0) rfl fun a b x y st Q h => by
    walk_at "E"
    rw [show (if 0 > x - y then 0 else x - y) = max (x - y) 0 by rw [Int.max_def]; split <;> split <;> omega]
    exact h
theorem enumD_ints (f : Int → PyData) : ∀ (a : List Int), enumD ((a.map f).map DV.d) = a.zipIdx.map fun p => DV.d (.tuple [.int p.2, f p.1]) := by
  intro a
  unfold enumD
  rw [List.map_map, List.mapIdx_eq_zipIdx_map, List.zipIdx_map, List.map_map]
  rfl
theorem sem_divides : ∀ xs st Q, sp_divides xs st Q → rd_divides { nx := fun _ st' => Fg Q (.d .none) st', rt := Fg Q } (startD 4 xs) st := by
  rintro xs st Q ⟨a, b, rfl, K⟩
  have e0 : startD 4 [.d (TI a), .d (TI b)] = [some (.d (TI a)), some (.d (TI b)), none, none] := rfl
  rw [e0]
  unfold rd_divides
  refine seq fun N hN => ?_
  walk_at "E"
  rw [zipD_ints]
  refine for_byT _ (fun i ε s => s = st ∧ (((a.zip b).take i).all fun p => decide (p.1 ≤ p.2)) = true ∧ ∃ x y, ε = [some (.d (TI a)), some (.d (TI b)), x, y]) ⟨rfl, rfl, _, _, rfl⟩ (fun _ _ _ _ => trivial) ?_ ?_
  · rintro i p ε s hp ⟨rfl, ha, x, y, rfl⟩ L hL
    walk_at "E"
    simp only [List.map_cons, List.map_nil, List.length_cons, List.length_nil]
    walk_at "E"
    by_cases h : p.2 < p.1
    · simp only [h, decide_true, if_true]
      refine fg_ret ?_
      have e : divB a b = false := by
        unfold divB
        rw [List.all_eq_false]
        exact ⟨p, List.mem_of_getElem? hp, by simp; omega⟩
      rw [e] at K
      exact K
    · simp only [h, decide_false]
      walk_at "E"
      refine hL _ _ ⟨rfl, ?_, _, _, rfl⟩
      rw [List.take_succ, hp, List.all_append, ha]
      simp
      omega
  · rintro ε s ⟨rfl, ha, x, y, rfl⟩
    refine hN _ _ ?_
    walk_at "E"
    refine fg_ret ?_
    rw [List.take_length] at ha
    have e : divB a b = true := ha
    rw [e] at K
    exact K
theorem div_none {a b : List Int} {n : Nat} (ha : a.length = n) (hb : b.length = n) : divB a b = decide ((List.range n).filter (fun j => decide (gd b j < gd a j)) = []) := bool_dec <| by
  rw [divB_iff ha hb, filter_nil]
  constructor
  · intro h j hj
    exact decide_eq_false (by have := h j (List.mem_range.mp hj); omega)
  · intro h j hj
    have := of_decide_eq_false (h j (List.mem_range.mpr hj))
    omega
end UC
end
section
set_option Elab.async false
set_option linter.all false
set_option maxRecDepth 100000
set_option maxHeartbeats 1000000
open PySem L2 DL RD UC
local macro_rules | `(tactic| walk_at "E") => `(tactic| (try simp only [qAsg, qRet, qDrop, qIfS, qTest, qAndT, qOrT, qNotT, qAndV, qOrV, qNotV, qIf, qOp, qUn, qChain, onB, qv, qc, qgN, qgT, qgCons, qgNil, qCons, qNil, qTup, qLst, qPar, qPar3, qAug, qCB, qCall, qLen, qTupleC, qListC, qMax2, qMin2, qIntC, qSum, qAny, qAll, qIsi, tyName, qAdd, qSub, qMul, qFdiv, qMod, qPow, qI2, qCmpI, qEq, qNe, qLt, qLe, qGt, qGe, qNeg, qIx, qDGet, qDIn, qDPut, qSl, qPart, qNoPart, qNext, qFor, qiSeq, qiRng1, qiRng2, qiZip, qiEnum, qLc, seqSrc, lsrc, titems, litems, sitems, fz, newL, List.getElem?_cons_zero, List.getElem?_cons_succ, List.set_cons_zero, List.set_cons_succ, if_true, if_false, Bool.false_eq_true, ite_true, ite_false, up_same, reduceIte, decide_true, decide_false, true_and, and_true]))
local macro_rules | `(tactic| walk_at "D") => `(tactic| (try simp only [qAsg, qRet, qDrop, qIfS, qTest, qAndT, qOrT, qNotT, qAndV, qOrV, qNotV, qIf, qOp, qUn, qChain, onB, qv, qc, qgN, qgT, qgCons, qgNil, qCons, qNil, qTup, qLst, qPar, qPar3, qAug, qCB, qCall, qLen, qTupleC, qListC, qMax2, qMin2, qIntC, qSum, qAny, qAll, qIsi, tyName, qAdd, qSub, qMul, qFdiv, qMod, qPow, qI2, qCmpI, qEq, qNe, qLt, qLe, qGt, qGe, qNeg, qIx, qDGet, qDIn, qDPut, qSl, qPart, qNoPart, qNext, qFor, qiSeq, qiRng1, qiRng2, qiZip, qiEnum, qLc, seqSrc, lsrc, titems, litems, sitems, fz, newL, List.getElem?_cons_zero, List.getElem?_cons_succ, List.set_cons_zero, List.set_cons_succ, if_true, if_false, Bool.false_eq_true, ite_true, ite_false, up_same, reduceIte, decide_true, decide_false, true_and, and_true, eqv_int, eqv_bool, eqv_TI, eqv_LI, eqv_TT, eqv_LT, eqv_nilL, eqv_nilT, shaped_TI, shaped_LI, shaped_TT, shaped_LT, shaped_int, shaped_bool, shaped_nilL, shaped_nilT, dints_map2, dbools_map2, datas_map, mkT_map, mkT_0, mkT_1, mkT_2, mkT_3, List.length_map, List.length_cons, List.length_nil, List.length_append, List.map_cons, List.map_nil, wipeD, Bool.not_true, Bool.not_false, eq_self, not_true_eq_false, not_false_eq_true, kitB_tt, kitB_ll, kitB_dd, kitB_bb, kitB_ib, kitB_ii, kitB_ss, kitB_tl, kitB_lt, Function.comp, datas, Option.map_some, List.cons_append, List.nil_append, CPow, le_size4, Int.toNat_natCast, rngD0, I_eq, Bo_eq, BS.qSortB, in_IT, in_IL, in_TT, in_TL, qNotN, qIsN, qSortD, qListRg, qDispT, keyX_TI, qGet, qiItems, qLockE, qLockS, qPop, qMaxDf, qLc2, qMax1, qMin1, qAppend, qExtend, tints_TI, dv_TI, Option.bind_some, qRetN, atI_0, atI_1, atI_2, mk_appT, mk_snocI, idl, rep_I, Option.map_none, qComb, qGcd]))
local macro_rules | `(tactic| walk_at "F") => `(tactic| (try simp only [qAsg, qRet, qDrop, qIfS, qTest, qAndT, qOrT, qNotT, qAndV, qOrV, qNotV, qIf, qOp, qUn, qChain, onB, qv, qc, qgN, qgT, qgCons, qgNil, qCons, qNil, qTup, qLst, qPar, qPar3, qAug, qCB, qCall, qLen, qTupleC, qListC, qMax2, qMin2, qIntC, qSum, qAny, qAll, qIsi, tyName, qAdd, qSub, qMul, qFdiv, qMod, qPow, qI2, qCmpI, qEq, qNe, qLt, qLe, qGt, qGe, qNeg, qIx, qDGet, qDIn, qDPut, qSl, qPart, qNoPart, qNext, qFor, qiRng1, qiRng2, qiZip, qiEnum, qLc, fz, newL, List.getElem?_cons_zero, List.getElem?_cons_succ, List.set_cons_zero, List.set_cons_succ, if_true, if_false, Bool.false_eq_true, ite_true, ite_false, up_same, reduceIte, decide_true, decide_false, true_and, and_true, eqv_int, eqv_bool, eqv_TI, eqv_LI, eqv_TT, eqv_LT, eqv_nilL, eqv_nilT, shaped_TI, shaped_LI, shaped_TT, shaped_LT, shaped_int, shaped_bool, shaped_nilL, shaped_nilT, dints_map2, dbools_map2, datas_map, mkT_map, mkT_0, mkT_1, mkT_2, mkT_3, List.length_map, List.length_cons, List.length_nil, List.length_append, List.map_cons, List.map_nil, wipeD, Bool.not_true, Bool.not_false, eq_self, not_true_eq_false, not_false_eq_true, kitB_tt, kitB_ll, kitB_dd, kitB_bb, kitB_ib, kitB_ii, kitB_ss, kitB_tl, kitB_lt, Function.comp, datas, Option.map_some, List.cons_append, List.nil_append, CPow, le_size4, Int.toNat_natCast, rngD0, I_eq, Bo_eq, BS.qSortB, in_IT, in_IL, in_TT, in_TL, qNotN, qIsN, qSortD, qListRg, qDispT, keyX_TI, qGet, qiItems, qLockE, qLockS, qPop, qMaxDf, qLc2, qMax1, qMin1, qAppend, qExtend, tints_TI, dv_TI, Option.bind_some, qRetN, atI_0, atI_1, atI_2, mk_appT, mk_snocI, idl, rep_I, Option.map_none, qComb, qGcd]))
namespace UC
open PySem L2 DL RD
/-- what may be sorted as a set -/
def OkS (n : Nat) (w : Int) (ts : List (List Int)) : Prop := 1 ≤ n ∧ n ≤ 1000 ∧ ts.length < 4000 ∧ ∀ t ∈ ts, Mon n w t
theorem OkS.q {n : Nat} {w : Int} {ts : List (List Int)} (h : OkS n w ts) : ts.length < 4000 ∧ ∀ t ∈ ts, t ≠ [] := ⟨h.2.2.1, fun t ht e => by
  have h1 := (h.2.2.2 t ht).1
  have h2 := h.1
  rw [e] at h1
  simp at h1
  omega⟩
theorem OkS.len {n : Nat} {w : Int} {ts : List (List Int)} (h : OkS n w ts) : ∀ t ∈ ts, t.length = n := fun t ht => (h.2.2.2 t ht).1
def sp_law_divides : SpD := fun xs st Q => ∃ (a b : List Int) (n : Nat), xs = [.d (TI a), .d (TI b)] ∧ a.length = n ∧ b.length = n ∧ n ≤ 1000 ∧ Q (Bo (divB a b)) st
theorem len_law_divides : ∀ xs st Q, sp_law_divides xs st Q → xs.length = 2 := by rintro xs st Q ⟨a, b, n, rfl, _⟩; rfl
theorem sem_law_divides : ∀ xs st Q, sp_law_divides xs st Q → rd_law_divides { nx := fun _ st' => Fg Q (.d .none) st', rt := Fg Q } (startD 3 xs) st := by
  rintro xs st Q ⟨a, b, n, rfl, ha, hb, hn, K⟩
  have e0 : startD 3 [.d (TI a), .d (TI b)] = [some (.d (TI a)), some (.d (TI b)), none] := rfl
  rw [e0]
  unfold rd_law_divides
  walk_at "D"
  rw [ha]
  refine ⟨by omega, by omega, by rw [List.length_range, sizeL]; omega, ?_⟩
  refine comp_fmT _ (fun j => decide (gd b j < gd a j)) (fun (j : Nat) => I (j : Int)) trivial _ _ ?_ ?_
  · intro j hj Q1 Q2 h
    rw [List.mem_range] at hj
    walk_at "D"
    simp only [atI_gd (show j < a.length by omega), atI_gd (show j < b.length by omega)]
    walk_at "D"
    exact h
  · rw [ints_dv0]
    walk_at "D"
    simp only [List.map_eq_nil_iff]
    rw [← div_none ha hb]
    refine ⟨by decide, fg_ret K⟩
def sp_law_least : SpD := fun xs st Q => ∃ (x : DV) (ts : List (List Int)) (n : Nat) (w : Int), xs = [x] ∧ sitems st x = some ((ts.map TI).map .d) ∧ OkS n w ts ∧ Q (.d (TT (minL ts))) st
theorem len_law_least : ∀ xs st Q, sp_law_least xs st Q → xs.length = 1 := by rintro xs st Q ⟨a, ts, n, w, rfl, _⟩; rfl
theorem sem_law_least : ∀ xs st Q, sp_law_least xs st Q → rd_law_least sp_law_divides { nx := fun _ st' => Fg Q (.d .none) st', rt := Fg Q } (startD 4 xs) st := by
  rintro xs st Q ⟨x, ts, n, w, rfl, hx, ok, K⟩
  have e0 : startD 4 [x] = [some x, none, none, none] := rfl
  rw [e0]
  unfold rd_law_least
  refine seq fun N hN => ?_
  walk_at "F"
  simp only [hx]
  walk_at "D"
  refine ⟨ok.q.1, hN _ _ ?_⟩; clear hN N
  have hl : (sortU ts).length < 4000 := Nat.lt_of_le_of_lt (sortU_len ts) ok.q.1
  have hq : ∀ s ∈ sortU ts, s.length = n := fun s hs => ok.len s (mem_sortU.mp hs)
  walk_at "D"
  refine ⟨size_of (Nat.le_of_lt hl) (by omega), ?_⟩
  rw [List.map_map]
  refine comp_fmT _ (fun a => decide ((sortU ts).filter (fun b => decide (b ≠ a) && divB b a) = [])) (fun a => .d (TI a)) trivial _ _ ?_ ?_
  · intro a ha Q1 Q2 h
    walk_at "D"
    refine ⟨size_of (Nat.le_of_lt hl) (by omega), ?_⟩
    rw [List.map_map]
    refine comp_fmT _ (fun b => decide (b ≠ a) && divB b a) (fun b => .d (TI b)) trivial _ _ ?_ ?_
    · intro b hb Q3 Q4 h2
      walk_at "D"
      by_cases e : b = a
      · simp only [e, decide_true, Bool.not_true]
        simp only [e, ne_eq, not_true_eq_false, decide_false, Bool.false_and] at h2
        exact h2
      · simp only [e, decide_false, Bool.not_false, if_true]
        simp only [ne_eq, e, not_false_eq_true, decide_true, Bool.true_and] at h2
        refine ⟨b, a, n, rfl, hq b hb, hq a ha, ok.2.1, ?_⟩
        walk_at "D"
        exact h2
    · rw [tis_dv0]
      walk_at "D"
      exact ⟨by decide, h⟩
  · rw [tis_dv0]
    walk_at "D"
    exact fg_ret K
def sp_law_monomial : SpD := fun xs st Q => ∃ (a : Addr) (n : Nat) (top : Int) (B : Nat), xs = [.r a, I n, I top] ∧ n ≤ 100 ∧ 0 ≤ top ∧ top < 2 ^ 29 ∧ B + 200 < 2 ^ 50 ∧ DrawSt st a B ∧
  ∀ (v : List Int) st', Mon n top v → DrawSt st' a (B + 200) → (∀ b, b ≠ a → st' b = st b) → Q (.d (TI v)) st'
theorem len_law_monomial : ∀ xs st Q, sp_law_monomial xs st Q → xs.length = 3 := by rintro xs st Q ⟨a, n, w, B, rfl, _⟩; rfl
theorem sem_law_monomial : ∀ xs st Q, sp_law_monomial xs st Q → rd_law_monomial sp_law_draw { nx := fun _ st' => Fg Q (.d .none) st', rt := Fg Q } (startD 4 xs) st := by
  rintro xs st Q ⟨a, n, w, B, rfl, hn, w1, w2, hB, D, K⟩
  have e0 : startD 4 [.r a, I n, I w] = [some (.r a), some (I n), some (I w), none] := rfl
  rw [e0]
  unfold rd_law_monomial
  walk_at "D"
  refine ⟨by omega, by omega, by rw [List.length_range, sizeL]; omega, ?_⟩
  refine comp_wordI _ (fun i acc s => ∃ v : List Int, acc = (v.map .int).map .d ∧ v.length = i ∧ (∀ x ∈ v, 0 ≤ x ∧ x ≤ w) ∧ DrawSt s a (B + 2 * i) ∧ ∀ b, b ≠ a → s b = st b) (fun _ _ _ _ => trivial) _ st ⟨[], rfl, rfl, (by intro x hx; cases hx), D, fun _ _ => rfl⟩ ?_ ?_
  · rintro i p acc s hp ⟨v, rfl, h1, h2, D, fr⟩ Q1 h
    obtain ⟨rfl, hi⟩ := range_some hp
    walk_at "D"
    refine draw D (by omega) (by omega) (by omega) fun d1 s1 l1 u1 D1 fr1 => ?_
    walk_at "D"
    by_cases hd : 0 < d1
    · simp only [hd, decide_true, if_true]
      refine draw D1 (by omega) (by omega) (by omega) fun d2 s2 l2 u2 D2 fr2 => ?_
      refine h _ _ ⟨v ++ [d2], by simp, by simp; omega, ?_, D2.mono (by omega), fun b hb => by rw [fr2 b hb, fr1 b hb, fr b hb]⟩
      intro x hx
      rcases List.mem_append.mp hx with hx | hx
      · exact h2 x hx
      · rw [List.mem_singleton.mp hx]; omega
    · simp only [hd, decide_false]
      walk_at "D"
      refine h _ _ ⟨v ++ [0], by simp, by simp; omega, ?_, D1.mono (by omega), fun b hb => by rw [fr1 b hb, fr b hb]⟩
      intro x hx
      rcases List.mem_append.mp hx with hx | hx
      · exact h2 x hx
      · rw [List.mem_singleton.mp hx]; omega
  · rintro acc s ⟨v, rfl, h1, h2, D, fr⟩
    rw [List.length_range] at h1 D
    walk_at "D"
    exact fg_ret (K v s ⟨h1, h2⟩ (D.mono (by omega)) fr)
/-- the least generators of an ideal -/
def Idl (n : Nat) (w : Int) (cnt : Nat) (L : List (List Int)) : Prop := minL L = L ∧ L.length ≤ cnt ∧ ∀ t ∈ L, Mon n w t
def sp_law_ideal : SpD := fun xs st Q => ∃ (a : Addr) (n cnt : Nat) (top : Int) (B : Nat), xs = [.r a, I n, I cnt, I top] ∧ 1 ≤ n ∧ n ≤ 100 ∧ cnt ≤ 60 ∧ 0 ≤ top ∧ top < 2 ^ 29 ∧ B + 20000 < 2 ^ 50 ∧ DrawSt st a B ∧
  ∀ (L : List (List Int)) st', Idl n top cnt L → (∀ t ∈ L, 0 < t.sum) → DrawSt st' a (B + 20000) → (∀ b, b ≠ a → st' b = st b) → Q (.d (idl n L)) st'
theorem len_law_ideal : ∀ xs st Q, sp_law_ideal xs st Q → xs.length = 4 := by rintro xs st Q ⟨a, n, c, w, B, rfl, _⟩; rfl
theorem sem_law_ideal : ∀ xs st Q, sp_law_ideal xs st Q → rd_law_ideal sp_law_draw sp_law_monomial sp_law_least { nx := fun _ st' => Fg Q (.d .none) st', rt := Fg Q } (startD 7 xs) st := by
  rintro xs st Q ⟨a, n, cnt, top, B, rfl, hn0, hn, hcnt, w1, w2, hB, D, K⟩
  have e0 : startD 7 [.r a, I n, I cnt, I top] = [some (.r a), some (I n), some (I cnt), some (I top), none, none, none] := rfl
  rw [e0]
  unfold rd_law_ideal
  refine seq fun N hN => ?_
  walk_at "D"
  refine draw D (by omega) (by omega) (by omega) fun v s1 l1 u1 D1 fr1 => ?_
  obtain ⟨c, rfl⟩ : ∃ c : Nat, v = (c : Int) := ⟨v.toNat, by omega⟩
  walk_at "D"
  refine ⟨by omega, by omega, by rw [List.length_range, sizeL]; omega, ?_⟩
  refine comp_wordI _ (fun i acc s => ∃ ts : List (List Int), acc = (ts.map TI).map .d ∧ ts.length = i ∧ (∀ t ∈ ts, Mon n top t) ∧ DrawSt s a (B + 1 + 200 * i) ∧ ∀ b, b ≠ a → s b = st b) (fun _ _ _ _ => trivial) _ s1 ⟨[], rfl, rfl, (by intro x hx; cases hx), D1, fr1⟩ ?_ ?_
  · rintro i p acc s hp ⟨ts, rfl, h1, h2, D, fr⟩ Q1 h
    obtain ⟨rfl, hi⟩ := range_some hp
    walk_at "D"
    refine ⟨a, n, top, _, rfl, hn, w1, w2, by omega, D, fun t s2 ht D2 fr2 => ?_⟩
    refine h _ _ ⟨ts ++ [t], by simp, by simp; omega, ?_, D2.mono (by omega), fun b hb => by rw [fr2 b hb, fr b hb]⟩
    intro x hx
    rcases List.mem_append.mp hx with hx | hx
    · exact h2 x hx
    · rw [List.mem_singleton.mp hx]; exact ht
  · rintro acc s ⟨ts, rfl, h1, h2, D, fr⟩
    rw [List.length_range] at h1 D
    walk_at "D"
    refine hN _ _ ?_; clear hN N
    walk_at "D"
    refine ⟨size_of (m := 60) (by omega) (by omega), ?_⟩
    rw [List.map_map]
    refine comp_fmT _ (fun t => decide (0 < t.sum)) (fun t => .d (TI t)) trivial _ _ ?_ ?_
    · intro t ht Q1 Q2 h
      walk_at "D"
      by_cases e : 0 < t.sum
      · simp only [e, decide_true, if_true] at h ⊢
        walk_at "D"
        exact h
      · simp only [e, decide_false] at h ⊢
        walk_at "D"
        exact h
    · rw [tis_dv0]
      walk_at "D"
      have hf : (ts.filter fun t => decide (0 < t.sum)).length ≤ c := Nat.le_trans (List.length_filter_le _ _) (by omega)
      have hm : ∀ t ∈ ts.filter (fun t => decide (0 < t.sum)), Mon n top t := fun t ht => h2 t (List.mem_filter.mp ht).1
      have hle : ∀ t ∈ ts.filter (fun t => decide (0 < t.sum)), t.length = n := fun t ht => (hm t ht).1
      refine ⟨_, ts.filter fun t => decide (0 < t.sum), n, top, rfl, rfl, ⟨hn0, by omega, by omega, hm⟩, ?_⟩
      walk_at "D"
      refine ⟨by decide, fg_ret (K _ s ⟨min_idem hle, Nat.le_trans (min_len _) (by omega), fun t ht => hm t (min_sub t ht)⟩ (fun t ht => of_decide_eq_true (List.mem_filter.mp (min_sub t ht)).2) (D.mono (by omega)) fr)⟩
/-- the program's own -/
def sp_least_ones : SpD := fun xs st Q => ∃ (x : DV) (ts : List (List Int)) (n : Nat) (w : Int), xs = [x] ∧ sitems st x = some ((ts.map TI).map .d) ∧ OkS n w ts ∧
  ∀ p st', st p = none → st' p = some (.lst (((minL ts).map TI).map .d)) → (∀ b, b ≠ p → st' b = st b) → Q (.r p) st'
theorem len_least_ones : ∀ xs st Q, sp_least_ones xs st Q → xs.length = 1 := by rintro xs st Q ⟨a, ts, n, w, rfl, _⟩; rfl
theorem sem_least_ones : ∀ xs st Q, sp_least_ones xs st Q → rd_least_ones sp_divides { nx := fun _ st' => Fg Q (.d .none) st', rt := Fg Q } (startD 4 xs) st := by
  rintro xs st Q ⟨x, ts, n, w, rfl, hx, ok, K⟩
  have e0 : startD 4 [x] = [some x, none, none, none] := rfl
  rw [e0]
  unfold rd_least_ones
  have hl : (sortU ts).length < 4000 := Nat.lt_of_le_of_lt (sortU_len ts) ok.q.1
  have hacc : ∀ i, (((sortU ts).take i).foldl stepL []).length ≤ i := by
    have : ∀ (l acc : List (List Int)), (l.foldl stepL acc).length ≤ acc.length + l.length := by
      intro l
      induction l with
      | nil => exact fun acc => Nat.le_refl _
      | cons m l ih =>
        intro acc
        refine Nat.le_trans (ih (stepL acc m)) ?_
        unfold stepL
        split
        · simp <;> omega
        · simp <;> omega
    intro i
    refine Nat.le_trans (this _ []) ?_
    simp only [List.length_nil, List.length_take]
    omega
  refine seq fun N hN => ?_
  walk_at "D"
  refine ⟨by decide, fun p hp => hN _ _ ?_⟩; clear hN N
  refine seq fun N hN => ?_
  walk_at "F"
  simp only [qiSeq, BS.qSortB, qv, List.getElem?_cons_zero, sitems_le hx (le_up1 hp)]
  walk_at "D"
  refine ⟨ok.q.1, ?_⟩
  rw [List.map_map]
  refine for_byT _ (fun i ε s => ∃ y, ε = [some x, some (.r p), y, none] ∧ s p = some (.lst (((((sortU ts).take i).foldl stepL []).map TI).map .d)) ∧ ∀ b, b ≠ p → s b = st b) ⟨none, rfl, up_same, fun b hb => up_ne hb⟩ (fun _ _ _ _ => trivial) ?_ ?_
  · rintro i m ε s hm ⟨y, rfl, hs, fr⟩ L hL
    walk_at "D"
    simp only [hs]
    walk_at "D"
    have hlen := hacc i
    have hi : i < (sortU ts).length := (List.getElem?_eq_some_iff.mp hm).1
    refine ⟨size_of (m := 4000) (by omega) (by omega), ?_⟩
    rw [List.map_map]
    have hn : (sortU ts).take (i + 1) = (sortU ts).take i ++ [m] := by rw [List.take_succ, hm]; rfl
    generalize hA : ((sortU ts).take i).foldl stepL [] = A at hs hlen ⊢
    refine comp_mapT _ (fun o => Bo (divB o m)) (by rw [← List.map_map]; exact hs) _ _ ?_ ?_
    · intro o ho Q1 h
      walk_at "D"
      exact ⟨o, m, rfl, h⟩
    · have e1 : [] ++ A.map (fun o => Bo (divB o m)) = ((A.map fun o => divB o m).map PyData.bool).map DV.d := by
        rw [List.nil_append, List.map_map, List.map_map]
        rfl
      rw [e1]
      walk_at "D"
      have hstep : ((sortU ts).take (i + 1)).foldl stepL [] = if (A.map fun o => divB o m).any id = true then A else A ++ [m] := by rw [hn, List.foldl_append, hA]; rfl
      cases e : (A.map fun o => divB o m).any id with
      | true =>
        rw [e, if_pos rfl] at hstep
        walk_at "D"
        exact hL _ _ ⟨_, rfl, by rw [hstep]; exact hs, fr⟩
      | false =>
        rw [e, if_neg Bool.false_ne_true] at hstep
        walk_at "D"
        refine ⟨⟨_, hs⟩, _, hs, by simp only [List.length_map, sizeL]; omega, hL _ _ ⟨_, rfl, ?_, fun b hb => by rw [up_ne hb]; exact fr b hb⟩⟩
        rw [up_same, hstep]
        simp
  · rintro ε s ⟨y, rfl, hs, fr⟩
    refine hN _ _ ?_
    walk_at "D"
    rw [List.take_length, fold_min ok.len] at hs
    exact fg_ret (K p s hp hs fr)
def sp_made : SpD := fun xs st Q => ∃ (x : DV) (ts : List (List Int)) (n : Nat), xs = [I n, x] ∧ sitems st x = some ((ts.map TI).map .d) ∧ OkS n 60 ts ∧ (minL ts).length ≤ 60 ∧ Q (.d (idl n (minL ts))) st
theorem len_made : ∀ xs st Q, sp_made xs st Q → xs.length = 2 := by rintro xs st Q ⟨a, ts, n, rfl, _⟩; rfl
theorem foldl_max_le {b : Int} : ∀ (l : List Int) (a : Int), a ≤ b → (∀ x ∈ l, x ≤ b) → l.foldl max a ≤ b
  | [], a, h, _ => h
  | x :: l, a, h, hl => foldl_max_le l (max a x) (by have := hl x List.mem_cons_self; omega) fun y hy => hl y (List.mem_cons_of_mem _ hy)
theorem sem_made : ∀ xs st Q, sp_made xs st Q → rd_made sp_least_ones { nx := fun _ st' => Fg Q (.d .none) st', rt := Fg Q } (startD 4 xs) st := by
  rintro xs st Q ⟨x, ts, n, rfl, hx, ok, h60, K⟩
  have e0 : startD 4 [I n, x] = [some (I n), some x, none, none] := rfl
  rw [e0]
  unfold rd_made
  refine seq fun N hN => ?_
  walk_at "D"
  refine ⟨x, ts, n, 60, rfl, hx, ok, fun p s hp hs fr => hN _ _ ?_⟩; clear hN N
  refine seq fun N hN => ?_
  walk_at "D"
  simp only [hs]
  walk_at "D"
  have hno : ¬ (60 : Int) < ((minL ts).length : Int) := by omega
  simp only [hno, decide_false]
  walk_at "D"
  refine hN _ _ ?_; clear hN N
  refine seq fun N hN => ?_
  walk_at "D"
  simp only [hs]
  rw [List.map_map]
  refine for_byT _ (fun i ε s' => s' = s ∧ ∃ y, ε = [some (I n), some x, some (.r p), y]) ⟨rfl, none, rfl⟩ (fun _ _ s' h => by rw [h.1, hs, List.map_map]) ?_ ?_
  · rintro i m ε s' hm ⟨rfl, y, rfl⟩ L hL
    have hmon := ok.2.2.2 m (min_sub m (List.mem_of_getElem? hm))
    cases m with
    | nil => have := hmon.1; have := ok.1; simp at *; omega
    | cons a r =>
      walk_at "D"
      have e1 : dints (DV.d (.int a) :: List.map DV.d (List.map PyData.int r)) = some (a :: r) := dints_map2 (a :: r)
      simp only [e1]
      walk_at "D"
      have hno : ¬ 60 < r.foldl max a := by
        have := foldl_max_le r a (hmon.2 a List.mem_cons_self).2 fun x hx => (hmon.2 x (List.mem_cons_of_mem _ hx)).2
        omega
      simp only [hno, decide_false]
      walk_at "D"
      exact hL _ _ ⟨rfl, _, rfl⟩
  · rintro ε s' ⟨rfl, y, rfl⟩
    refine hN _ _ ?_
    walk_at "D"
    simp only [hs]
    walk_at "D"
    exact ⟨by decide, fg_le (le_up hp fr) K⟩
def spO (f : List (List Int) → List (List Int) → List (List Int)) : SpD := fun xs st Q => ∃ (A B : List (List Int)) (n : Nat), xs = [.d (idl n A), .d (idl n B)] ∧ OkS n 60 (f A B) ∧ (minL (f A B)).length ≤ 60 ∧ A.length ≤ 1000 ∧ B.length ≤ 1000 ∧ (∀ a ∈ A, a.length ≤ 1000) ∧ Q (.d (idl n (minL (f A B)))) st
theorem lenO {f : List (List Int) → List (List Int) → List (List Int)} : ∀ xs st Q, spO f xs st Q → xs.length = 2 := by rintro xs st Q ⟨a, b, n, rfl, _⟩; rfl
def pairL (f : List Int → List Int → List Int) (A B : List (List Int)) : List (List Int) := A.flatMap fun a => B.map (f a)
abbrev sp_sum_of : SpD := spO (· ++ ·)
abbrev sp_meet_of : SpD := spO (pairL lcmL)
theorem len_sum_of : ∀ xs st Q, sp_sum_of xs st Q → xs.length = 2 := lenO
theorem len_meet_of : ∀ xs st Q, sp_meet_of xs st Q → xs.length = 2 := lenO
theorem sem_sum_of : ∀ xs st Q, sp_sum_of xs st Q → rd_sum_of sp_made { nx := fun _ st' => Fg Q (.d .none) st', rt := Fg Q } (startD 2 xs) st := by
  rintro xs st Q ⟨A, B, n, rfl, ok, h60, hA, hB, _, K⟩
  have e0 : startD 2 [.d (idl n A), .d (idl n B)] = [some (.d (idl n A)), some (.d (idl n B))] := rfl
  rw [e0]
  unfold rd_sum_of
  walk_at "D"
  exact ⟨size_of (m := 2000) (by omega) (by omega), _, A ++ B, n, rfl, rfl, ok, h60, fg_ret K⟩
theorem semP_of {f : List Int → List Int → List Int} {sp : SpD} (hs : ∀ a b st Q, a.length ≤ 1000 → Q (.d (TI (f a b))) st → sp [.d (TI a), .d (TI b)] st Q) :
    ∀ xs st Q, spO (pairL f) xs st Q → (qRet (qCall sp_made (qCons (qOp qIx (qv 0) (qc (.d (.int 0)))) (qCons (qLc2 false (qiSeq (qOp qIx (qv 0) (qc (.d (.int 1))))) (qgN 2) qYes (qiSeq (qOp qIx (qv 1) (qc (.d (.int 1))))) (qgN 3) qYes (qCall sp (qCons (qv 2) (qCons (qv 3) qNil))) [2, 3] [3]) qNil)))) { nx := fun _ st' => Fg Q (.d .none) st', rt := Fg Q } (startD 4 xs) st := by
  rintro xs st Q ⟨A, B, n, rfl, ok, h60, hA, hB, hl, K⟩
  have e0 : startD 4 [.d (idl n A), .d (idl n B)] = [some (.d (idl n A)), some (.d (idl n B)), none, none] := rfl
  rw [e0]
  walk_at "D"
  rw [List.map_map]
  refine comp2_T _ (fun a => B.map fun b => .d (TI (f a b))) 10000 trivial _ _ ?_ ?_ ?_
  · intro a ha acc Kc hacc k
    walk_at "D"
    refine ⟨by rw [sizeL]; omega, ?_⟩
    rw [List.map_map]
    refine comp_mapT _ (fun b => .d (TI (f a b))) trivial _ _ ?_ k
    intro b hb Q1 h
    walk_at "D"
    exact hs a b _ _ (hl a ha) h
  · have := ok.2.2.1
    have e : (A.flatMap fun a => B.map fun b => DV.d (TI (f a b))).length = (pairL f A B).length := by
      unfold pairL
      simp only [List.length_flatMap, List.length_map]
    rw [List.nil_append, e]
    omega
  · have e : [] ++ (A.flatMap fun a => B.map fun b => DV.d (TI (f a b))) = ((pairL f A B).map TI).map .d := by
      unfold pairL
      rw [List.nil_append, List.map_flatMap, List.map_flatMap]
      simp only [List.map_map]
      rfl
    rw [e]
    walk_at "D"
    exact ⟨_, pairL f A B, n, rfl, rfl, ok, h60, fg_ret K⟩
theorem sem_meet_of : ∀ xs st Q, sp_meet_of xs st Q → rd_meet_of sp_lcm_of sp_made { nx := fun _ st' => Fg Q (.d .none) st', rt := Fg Q } (startD 4 xs) st := semP_of fun a b st Q h k => ⟨a, b, rfl, h, k⟩
def sp2 (f : List Int → List Int → List Int) : SpD := fun xs st Q => ∃ (a b : List Int) (n : Nat), xs = [.d (TI a), .d (TI b)] ∧ a.length = n ∧ b.length = n ∧ n ≤ 1000 ∧ Q (.d (TI (f a b))) st
theorem len_sp2 {f : List Int → List Int → List Int} : ∀ xs st Q, sp2 f xs st Q → xs.length = 2 := by rintro xs st Q ⟨a, b, n, rfl, _⟩; rfl
abbrev sp_law_times : SpD := sp2 mulL
theorem len_law_times : ∀ xs st Q, sp_law_times xs st Q → xs.length = 2 := len_sp2
theorem sem2_of {f : List Int → List Int → List Int} {fe : Int → Int → Int} {te : TD} (hf : f = List.zipWith fe)
    (he : ∀ (a b : List Int) (j : Nat) (st : Sto) (Q : DV → Sto → Prop), j < a.length → j < b.length → Q (I (fe (gd a j) (gd b j))) st → te [some (.d (TI a)), some (.d (TI b)), some (I j)] st Q) :
    ∀ xs st Q, sp2 f xs st Q → (qRet (qCB qTupleC (qCons (qLc false (qiRng1 (qCons (qCB qLen (qCons (qv 0) qNil)) qNil)) (qgN 2) qYes te [2]) qNil))) { nx := fun _ st' => Fg Q (.d .none) st', rt := Fg Q } (startD 3 xs) st := by
  rintro xs st Q ⟨a, b, n, rfl, ha, hb, hn, K⟩
  have e0 : startD 3 [.d (TI a), .d (TI b)] = [some (.d (TI a)), some (.d (TI b)), none] := rfl
  rw [e0]
  walk_at "D"
  refine ⟨by omega, by omega, ?_⟩
  rw [ha]
  refine ⟨by rw [List.length_range, sizeL]; omega, ?_⟩
  refine comp_mapT _ (fun (j : Nat) => I (fe (gd a j) (gd b j))) trivial _ _ ?_ ?_
  · intro j hj Q1 h
    rw [List.mem_range] at hj
    walk_at "D"
    exact he a b j _ _ (by omega) (by omega) h
  · rw [ints_dv0, range_zw ha hb, ← hf]
    walk_at "D"
    exact fg_ret K
theorem sem_law_times : ∀ xs st Q, sp_law_times xs st Q → rd_law_times { nx := fun _ st' => Fg Q (.d .none) st', rt := Fg Q } (startD 3 xs) st :=
  sem2_of (fe := (· + ·)) rfl fun a b j st Q h1 h2 h => by
    walk_at "D"
    simp only [atI_gd h1, atI_gd h2]
    exact h
def sp_law_in : SpD := fun xs st Q => ∃ (L : List (List Int)) (c : List Int) (n : Nat), xs = [.d (TT L), .d (TI c)] ∧ L.length ≤ 1000 ∧ n ≤ 1000 ∧ (∀ g ∈ L, g.length = n) ∧ c.length = n ∧ Q (Bo (inL L c)) st
theorem len_law_in : ∀ xs st Q, sp_law_in xs st Q → xs.length = 2 := by rintro xs st Q ⟨a, b, n, rfl, _⟩; rfl
theorem inL_filter (L : List (List Int)) (c : List Int) : inL L c = !decide (L.filter (fun g => divB g c) = []) := by
  cases h : inL L c with
  | true =>
    obtain ⟨g, h1, h2⟩ := inL_iff.mp h
    rw [decide_eq_false fun e => by rw [List.filter_eq_nil_iff] at e; exact e g h1 h2]
    rfl
  | false =>
    rw [decide_eq_true (List.filter_eq_nil_iff.mpr fun g h1 h2 => by rw [inL_iff.mpr ⟨g, h1, h2⟩] at h; cases h)]
    rfl
theorem sem_law_in : ∀ xs st Q, sp_law_in xs st Q → rd_law_in sp_law_divides { nx := fun _ st' => Fg Q (.d .none) st', rt := Fg Q } (startD 3 xs) st := by
  rintro xs st Q ⟨L, c, n, rfl, hl, hn, hL, hc, K⟩
  have e0 : startD 3 [.d (TT L), .d (TI c)] = [some (.d (TT L)), some (.d (TI c)), none] := rfl
  rw [e0]
  unfold rd_law_in
  walk_at "D"
  refine ⟨size_of hl (by omega), ?_⟩
  rw [List.map_map]
  refine comp_fmT _ (fun g => divB g c) (fun g => .d (TI g)) trivial _ _ ?_ ?_
  · intro g hg Q1 Q2 h
    walk_at "D"
    refine ⟨g, c, n, rfl, hL g hg, hc, hn, ?_⟩
    walk_at "D"
    exact h
  · rw [tis_dv0]
    walk_at "D"
    rw [← inL_filter]
    exact ⟨by decide, fg_ret K⟩
def sp_law_box : SpD := fun xs st Q => ∃ (x0 : DV) (tops : List Int), xs = [x0] ∧ sitems st x0 = some ((tops.map .int).map .d) ∧ tops.length ≤ 100 ∧ (∀ t ∈ tops, 0 ≤ t ∧ t ≤ 60) ∧ (∀ i, (boxL (tops.take i)).length ≤ 100000) ∧
  ∀ (x : DV) st', Le st st' → (∀ a, x = .r a → st a = none) → sitems st' x = some (((boxL tops).map TI).map .d) → Q x st'
theorem len_law_box : ∀ xs st Q, sp_law_box xs st Q → xs.length = 1 := by rintro xs st Q ⟨a, t, rfl, _⟩; rfl
theorem boxL_snoc (ts : List Int) (t : Int) : boxL (ts ++ [t]) = (boxL ts).flatMap fun a => (List.range (t + 1).toNat).map fun (k : Nat) => a ++ [(k : Int)] := by
  unfold boxL
  rw [List.foldl_append]
  rfl
theorem sem_law_box : ∀ xs st Q, sp_law_box xs st Q → rd_law_box { nx := fun _ st' => Fg Q (.d .none) st', rt := Fg Q } (startD 6 xs) st := by
  rintro xs st Q ⟨x0, tops, rfl, hx0, hl, ht, hsz, K⟩
  have e0 : startD 6 [x0] = [some x0, none, none, none, none, none] := rfl
  rw [e0]
  unfold rd_law_box
  refine seq fun N hN => ?_
  walk_at "D"
  refine ⟨by decide, by decide, hN _ _ ?_⟩; clear hN N
  refine seq fun N hN => ?_
  obtain ⟨inv0, hsrc0, hinv0⟩ := src_of2 hx0
  walk_at "F"
  simp only [qiSeq]
  walk_at "F"
  simp only [hsrc0]
  rw [List.map_map]
  refine for_byT _ (fun i ε s => Le st s ∧ i ≤ tops.length ∧ ∃ (x : DV) (y2 y3 y4 : Option DV), ε = [some x0, some x, y2, y3, y4, none] ∧ (∀ a, x = .r a → st a = none) ∧ sitems s x = some (((boxL (tops.take i)).map TI).map .d))
    ⟨Le.refl _, Nat.zero_le _, .d (.list [.tuple []]), none, none, none, rfl, (fun a e => nomatch e), rfl⟩ (fun _ _ s h => hinv0 _ (sitems_le hx0 h.1)) ?_ ?_
  · rintro i top ε s hi ⟨le, hil, x, y2, y3, y4, rfl, _, hx⟩ L hL
    have hit : i < tops.length := (List.getElem?_eq_some_iff.mp hi).1
    have htop := ht top (List.mem_of_getElem? hi)
    have hnx : boxL (tops.take (i + 1)) = (boxL (tops.take i)).flatMap fun a => (List.range (top + 1).toNat).map fun (k : Nat) => a ++ [(k : Int)] := by
      rw [List.take_succ, hi]
      exact boxL_snoc _ _
    have hF := fun c hc => (mem_boxL (tops := tops.take i) (c := c)).mp hc
    have hsz1 := hsz (i + 1)
    rw [hnx] at hsz1
    generalize boxL (tops.take i) = F at hx hF hnx hsz1
    walk_at "D"
    refine seq fun N hN => ?_
    walk_at "D"
    refine ⟨by decide, fun p hp => hN _ _ ?_⟩; clear hN N
    refine seq fun N hN => ?_
    walk_at "F"
    have hx2 := sitems_le hx (le_up1 (m := .lst []) hp)
    obtain ⟨inv, hsrc, hinv⟩ := src_of2 hx2
    simp only [qiSeq, qv, List.getElem?_cons_zero, List.getElem?_cons_succ, hsrc]
    rw [List.map_map]
    refine for_byT _ (fun j ε s' => Le s s' ∧ ∃ (y4 : Option DV), ε = [some x0, some x, some (.d (.int top)), some (.r p), y4, none] ∧ s' p = some (.lst ((((F.take j).flatMap fun a => (List.range (top + 1).toNat).map fun (k : Nat) => a ++ [(k : Int)]).map TI).map .d)))
      ⟨le_up1 hp, y4, rfl, up_same⟩ (fun _ _ s' h => hinv s' (sitems_le hx h.1)) ?_ ?_
    · rintro j c ε s' hc ⟨le', y4, rfl, hs'⟩ L2 hL2
      have hcF := hF c (List.mem_of_getElem? hc)
      have hcl : c.length ≤ 100 := by rw [hcF.1, List.length_take]; omega
      have hjF : j < F.length := (List.getElem?_eq_some_iff.mp hc).1
      obtain ⟨t, rfl⟩ : ∃ t : Nat, top = (t : Int) := ⟨top.toNat, by omega⟩
      have e1 : ((t : Int) + 1).toNat = t + 1 := by omega
      rw [e1] at hs' hsz1
      have hsplit : (F.take (j + 1)).flatMap (fun a => (List.range (t + 1)).map fun (k : Nat) => a ++ [(k : Int)]) = (F.take j).flatMap (fun a => (List.range (t + 1)).map fun (k : Nat) => a ++ [(k : Int)]) ++ (List.range (t + 1)).map fun (k : Nat) => c ++ [(k : Int)] := by
        rw [List.take_succ, hc]
        simp
      have hlen : ((F.take (j + 1)).flatMap (fun a => (List.range (t + 1)).map fun (k : Nat) => a ++ [(k : Int)])).length ≤ 100000 := by
        refine Nat.le_trans ?_ hsz1
        have : F.flatMap (fun a => (List.range (t + 1)).map fun (k : Nat) => a ++ [(k : Int)]) = (F.take (j + 1)).flatMap (fun a => (List.range (t + 1)).map fun (k : Nat) => a ++ [(k : Int)]) ++ (F.drop (j + 1)).flatMap (fun a => (List.range (t + 1)).map fun (k : Nat) => a ++ [(k : Int)]) := by
          rw [← List.flatMap_append, List.take_append_drop]
        rw [this, List.length_append]
        omega
      rw [hsplit, List.length_append] at hlen
      walk_at "D"
      simp only [e1, rngD0]
      walk_at "D"
      refine ⟨⟨_, hs'⟩, by omega, by omega, by rw [List.length_range, sizeL]; omega, ?_⟩
      refine comp_mapT _ (fun (k : Nat) => .d (TI (c ++ [(k : Int)]))) trivial _ _ ?_ ?_
      · intro k hk Q1 h
        walk_at "D"
        exact ⟨by decide, by rw [sizeL]; omega, h⟩
      · have e2 : [] ++ (List.range (t + 1)).map (fun (k : Nat) => DV.d (TI (c ++ [(k : Int)]))) = (((List.range (t + 1)).map fun (k : Nat) => c ++ [(k : Int)]).map TI).map .d := by
          rw [List.nil_append, List.map_map, List.map_map]
          rfl
        rw [e2]
        walk_at "D"
        refine ⟨_, _, hs', rfl, by simp only [List.length_map, List.length_range, sizeL] at hlen ⊢; omega, hL2 _ _ ⟨le'.up hp, _, rfl, ?_⟩⟩
        rw [up_same, e1, hsplit, List.map_append, List.map_append]
    · rintro ε s' ⟨le', y4, rfl, hs'⟩
      refine hN _ _ ?_
      rw [List.take_length] at hs'
      walk_at "D"
      refine hL _ _ ⟨le.trans le', by omega, .r p, _, _, _, rfl, fun a e => ?_, ?_⟩
      · cases e
        cases z : st p with
        | none => rfl
        | some m => rw [le p m z] at hp; cases hp
      rw [hnx]
      simp only [sitems, titems, litems, hs']
  · rintro ε s ⟨le, hil, x, y2, y3, y4, rfl, hr, hx⟩
    refine hN _ _ ?_
    rw [List.take_length] at hx
    walk_at "D"
    exact fg_ret (K x s le hr hx)
end UC
end
section
set_option Elab.async false
set_option linter.all false
set_option maxRecDepth 100000
set_option maxHeartbeats 1000000
namespace UC
open PySem L2 DL RD
theorem mon_lcm {n : Nat} {w : Int} {a b : List Int} (ha : Mon n w a) (hb : Mon n w b) : Mon n w (lcmL a b) := by
  refine ⟨len_zw ha.1 hb.1, fun x hx => ?_⟩
  unfold lcmL at hx
  rw [← range_zw ha.1 hb.1] at hx
  obtain ⟨j, hj, rfl⟩ := List.mem_map.mp hx
  rw [List.mem_range] at hj
  have h1 := ha.2 _ (gd_mem (j := j) (by rw [ha.1]; exact hj))
  have h2 := hb.2 _ (gd_mem (j := j) (by rw [hb.1]; exact hj))
  omega
theorem mem_pairL {f : List Int → List Int → List Int} {A B : List (List Int)} {x : List Int} : x ∈ pairL f A B ↔ ∃ a ∈ A, ∃ b ∈ B, f a b = x := by
  unfold pairL
  simp only [List.mem_flatMap, List.mem_map]
theorem len_pairL {f : List Int → List Int → List Int} {A B : List (List Int)} : (pairL f A B).length = A.length * B.length := by
  unfold pairL
  induction A with
  | nil => simp
  | cons a A ih => rw [List.flatMap_cons, List.length_append, ih, List.length_map, List.length_cons, Nat.succ_mul, Nat.add_comm]
theorem div_lcm_iff {a b c : List Int} {n : Nat} (ha : a.length = n) (hb : b.length = n) (hc : c.length = n) : divB (lcmL a b) c = true ↔ divB a c = true ∧ divB b c = true := by
  unfold lcmL
  rw [divB_iff (len_zw ha hb) hc, divB_iff ha hc, divB_iff hb hc]
  constructor
  · intro h
    refine ⟨fun j hj => ?_, fun j hj => ?_⟩ <;> (have := h j hj; rw [gd_zw ha hb hj] at this; omega)
  · intro ⟨h1, h2⟩ j hj
    rw [gd_zw ha hb hj]
    have := h1 j hj
    have := h2 j hj
    omega
theorem mul_comm {a b : List Int} {n : Nat} (ha : a.length = n) (hb : b.length = n) : mulL a b = mulL b a := by
  unfold mulL
  rw [gd_ext (len_zw ha hb) (len_zw hb ha)]
  intro j hj
  rw [gd_zw ha hb hj, gd_zw hb ha hj]
  omega
theorem mul_zero {n : Nat} {a : List Int} (ha : a.length = n) : mulL a (List.replicate n 0) = a := by
  unfold mulL
  rw [gd_ext (len_zw ha (List.length_replicate ..)) ha]
  intro j hj
  rw [gd_zw ha (List.length_replicate ..) hj, gd_rep hj]
  omega
section
variable {n : Nat} {w : Int} {A B : List (List Int)}
theorem min_self {A S : List (List Int)} (hA : minL A = A) (hl : ∀ a ∈ A, a.length = n) (hS : ∀ s ∈ S, s.length = n) (c : ∀ s ∈ S, ∃ a ∈ A, divB a s = true) (c' : ∀ a ∈ A, ∃ s ∈ S, divB s a = true) : minL S = A := by
  rw [min_cong hS hl c c', hA]
theorem len_pm {f : List Int → List Int → List Int} (hf : ∀ a b, a.length = n → b.length = n → (f a b).length = n) (hA : ∀ a ∈ A, a.length = n) (hB : ∀ b ∈ B, b.length = n) : ∀ s ∈ pairL f A B, s.length = n := fun s hs => by
  obtain ⟨a, ha, b, hb, rfl⟩ := mem_pairL.mp hs
  exact hf a b (hA a ha) (hB b hb)
theorem in_app {c : List Int} (hA : ∀ a ∈ A, a.length = n) (hB : ∀ b ∈ B, b.length = n) (hc : c.length = n) : inL (minL (A ++ B)) c = (inL A c || inL B c) := by
  have h : ∀ s ∈ A ++ B, s.length = n := fun s hs => (List.mem_append.mp hs).elim (hA s) (hB s)
  rw [Bool.eq_iff_iff, in_min h hc, Bool.or_eq_true, inL_iff, inL_iff]
  constructor
  · rintro ⟨g, h1, h2⟩
    rcases List.mem_append.mp h1 with h1 | h1
    · exact .inl ⟨g, h1, h2⟩
    · exact .inr ⟨g, h1, h2⟩
  · rintro (⟨g, h1, h2⟩ | ⟨g, h1, h2⟩)
    · exact ⟨g, List.mem_append_left _ h1, h2⟩
    · exact ⟨g, List.mem_append_right _ h1, h2⟩
theorem in_meet {c : List Int} (hA : ∀ a ∈ A, a.length = n) (hB : ∀ b ∈ B, b.length = n) (hc : c.length = n) : inL (minL (pairL lcmL A B)) c = (inL A c && inL B c) := by
  rw [Bool.eq_iff_iff, in_min (len_pm (f := lcmL) (fun a b ha hb => len_zw ha hb) hA hB) hc, Bool.and_eq_true, inL_iff, inL_iff]
  constructor
  · rintro ⟨g, h1, h2⟩
    obtain ⟨a, ha, b, hb, rfl⟩ := mem_pairL.mp h1
    have := (div_lcm_iff (hA a ha) (hB b hb) hc).mp h2
    exact ⟨⟨a, ha, this.1⟩, ⟨b, hb, this.2⟩⟩
  · rintro ⟨⟨a, ha, h1⟩, ⟨b, hb, h2⟩⟩
    exact ⟨lcmL a b, mem_pairL.mpr ⟨a, ha, b, hb, rfl⟩, (div_lcm_iff (hA a ha) (hB b hb) hc).mpr ⟨h1, h2⟩⟩
theorem pair_one {f : List Int → List Int → List Int} {z : List Int} (hf : ∀ a ∈ A, f a z = a) : pairL f A [z] = A := by
  unfold pairL
  induction A with
  | nil => rfl
  | cons a A ih => rw [List.flatMap_cons, ih fun x hx => hf x (List.mem_cons_of_mem _ hx), List.map_cons, hf a List.mem_cons_self]; rfl
theorem mul_one (hm : minL A = A) (hA : ∀ a ∈ A, a.length = n) : minL (pairL mulL A [List.replicate n 0]) = A := by
  rw [pair_one fun a ha => mul_zero (hA a ha), hm]
theorem Idl.len {cnt : Nat} (h : Idl n w cnt A) : ∀ a ∈ A, a.length = n := fun a ha => (h.2.2 a ha).1
theorem ok_app {c1 c2 : Nat} (hn : 1 ≤ n) (hn2 : n ≤ 1000) (hw : w ≤ 60) (hA : Idl n w c1 A) (hB : Idl n w c2 B) (h : c1 + c2 ≤ 60) : OkS n 60 (A ++ B) ∧ (minL (A ++ B)).length ≤ 60 := by
  have h1 := hA.2.1
  have h2 := hB.2.1
  refine ⟨⟨hn, hn2, by rw [List.length_append]; omega, fun t ht => ?_⟩, Nat.le_trans (min_len _) (by rw [List.length_append]; omega)⟩
  rcases List.mem_append.mp ht with ht | ht
  · exact (hA.2.2 t ht).mono hw
  · exact (hB.2.2 t ht).mono hw
theorem ok_pair {f : List Int → List Int → List Int} {c1 c2 : Nat} (hn : 1 ≤ n) (hn2 : n ≤ 1000) (hf : ∀ a b, Mon n w a → Mon n w b → Mon n 60 (f a b)) (hA : Idl n w c1 A) (hB : Idl n w c2 B) (h : c1 * c2 ≤ 60) : OkS n 60 (pairL f A B) ∧ (minL (pairL f A B)).length ≤ 60 := by
  have h1 : A.length * B.length ≤ c1 * c2 := Nat.mul_le_mul hA.2.1 hB.2.1
  refine ⟨⟨hn, hn2, by rw [len_pairL]; omega, fun t ht => ?_⟩, Nat.le_trans (min_len _) (by rw [len_pairL]; omega)⟩
  obtain ⟨a, ha, b, hb, rfl⟩ := mem_pairL.mp ht
  exact hf a b (hA.2.2 a ha) (hB.2.2 b hb)
end
theorem eqv_idl (n m : Int) (X Y : List (List Int)) : PyData.eqv (.tuple [.int n, TT X]) (.tuple [.int m, TT Y]) = (decide (n = m) && decide (X = Y)) := by
  rw [PyData.eqv, PyData.eqvAll, PyData.eqvAll, PyData.eqvAll, eqv_int, eqv_TT, Bool.and_true]
theorem shaped_idl (n : Int) (X : List (List Int)) : SeqAt.shaped (.tuple [.int n, TT X]) = true := (sh_tuple (n := 3) (l := [.int n, TT X]) fun x hx => by
  simp only [List.mem_cons, List.not_mem_nil, or_false] at hx
  rcases hx with rfl | rfl
  · exact sh_int
  · exact sh_TT).mono (by omega) |>.shaped
end UC
end
section
set_option Elab.async false
set_option linter.all false
set_option maxRecDepth 100000
set_option maxHeartbeats 1000000
namespace UC
open PySem L2 DL RD
theorem app_lens {A B : List (List Int)} {n : Nat} (hA : ∀ a ∈ A, a.length = n) (hB : ∀ a ∈ B, a.length = n) : ∀ a ∈ A ++ B, a.length = n := fun a ha => (List.mem_append.mp ha).elim (hA a) (hB a)
theorem lcm_lens {A B : List (List Int)} {n : Nat} (hA : ∀ a ∈ A, a.length = n) (hB : ∀ a ∈ B, a.length = n) : ∀ a ∈ pairL lcmL A B, a.length = n := len_pm (fun a b ha hb => len_zw ha hb) hA hB
theorem mul_assoc {a b c : List Int} {n : Nat} (ha : a.length = n) (hb : b.length = n) (hc : c.length = n) : mulL a (mulL b c) = mulL (mulL a b) c := by
  unfold mulL
  rw [gd_ext (len_zw ha (len_zw hb hc)) (len_zw (len_zw ha hb) hc)]
  intro j hj
  rw [gd_zw ha (len_zw hb hc) hj, gd_zw hb hc hj, gd_zw (len_zw ha hb) hc hj, gd_zw ha hb hj]
  omega
section
variable {n : Nat} {w : Int} {A B : List (List Int)}
theorem Idl.mono {c : Nat} {v : Int} {d : Nat} (h : Idl n w c A) (hw : w ≤ v) (hc : c ≤ d) : Idl n v d A := ⟨h.1, Nat.le_trans h.2.1 hc, fun t ht => (h.2.2 t ht).mono hw⟩
theorem idl_app {c1 c2 : Nat} (hA : Idl n w c1 A) (hB : Idl n w c2 B) : Idl n w (c1 + c2) (minL (A ++ B)) :=
  ⟨min_idem (app_lens hA.len hB.len), Nat.le_trans (min_len _) (by rw [List.length_append]; exact Nat.add_le_add hA.2.1 hB.2.1), fun t ht => (List.mem_append.mp (min_sub t ht)).elim (hA.2.2 t) (hB.2.2 t)⟩
theorem idl_meet {c1 c2 : Nat} (hA : Idl n w c1 A) (hB : Idl n w c2 B) : Idl n w (c1 * c2) (minL (pairL lcmL A B)) :=
  ⟨min_idem (lcm_lens hA.len hB.len), Nat.le_trans (min_len _) (by rw [len_pairL]; exact Nat.mul_le_mul hA.2.1 hB.2.1), fun t ht => by
    obtain ⟨a, ha, b, hb, rfl⟩ := mem_pairL.mp (min_sub t ht)
    exact mon_lcm (hA.2.2 a ha) (hB.2.2 b hb)⟩
/-- the sum's call -/
theorem go_sum {c1 c2 : Nat} {st : Sto} {Q : DV → Sto → Prop} (hn : 1 ≤ n) (hn2 : n ≤ 1000) (hw : w ≤ 60) (hA : Idl n w c1 A) (hB : Idl n w c2 B) (h : c1 + c2 ≤ 60) (k : Q (.d (idl n (minL (A ++ B)))) st) : sp_sum_of [.d (idl n A), .d (idl n B)] st Q := by
  obtain ⟨o, c⟩ := ok_app hn hn2 hw hA hB h
  have := hA.2.1
  have := hB.2.1
  exact ⟨A, B, n, rfl, o, c, by omega, by omega, fun a ha => by rw [hA.len a ha]; exact hn2, k⟩
theorem go_meet {c1 c2 : Nat} {st : Sto} {Q : DV → Sto → Prop} (hn : 1 ≤ n) (hn2 : n ≤ 1000) (hw : w ≤ 60) (hA : Idl n w c1 A) (hB : Idl n w c2 B) (h : c1 * c2 ≤ 60) (h1 : c1 ≤ 60) (h2 : c2 ≤ 60) (k : Q (.d (idl n (minL (pairL lcmL A B)))) st) : sp_meet_of [.d (idl n A), .d (idl n B)] st Q := by
  obtain ⟨o, c⟩ := ok_pair (f := lcmL) hn hn2 (fun a b ha hb => (mon_lcm ha hb).mono hw) hA hB h
  have := hA.2.1
  have := hB.2.1
  exact ⟨A, B, n, rfl, o, c, by omega, by omega, fun a ha => by rw [hA.len a ha]; exact hn2, k⟩
end
end UC
end
section
set_option Elab.async false
set_option linter.all false
set_option maxRecDepth 100000
set_option maxHeartbeats 1000000
namespace UC
open PySem L2 DL RD
def NN (n : Nat) (c : List Int) : Prop := c.length = n ∧ ∀ x ∈ c, 0 ≤ x
theorem Mon.nn {n : Nat} {w : Int} {a : List Int} (h : Mon n w a) : NN n a := ⟨h.1, fun x hx => (h.2 x hx).1⟩
theorem NN.at {n : Nat} {c : List Int} (h : NN n c) {j : Nat} (hj : j < n) : 0 ≤ gd c j := h.2 _ (gd_mem (by rw [h.1]; exact hj))
theorem nn_mul {n : Nat} {a b : List Int} (ha : NN n a) (hb : NN n b) : NN n (mulL a b) := by
  refine ⟨len_zw ha.1 hb.1, fun x hx => ?_⟩
  unfold mulL at hx
  rw [← range_zw ha.1 hb.1] at hx
  obtain ⟨j, hj, rfl⟩ := List.mem_map.mp hx
  rw [List.mem_range] at hj
  have h1 := ha.at hj
  have h2 := hb.at hj
  omega
theorem div_cut_iff {a f c : List Int} {n : Nat} (ha : a.length = n) (hf : f.length = n) (hc : NN n c) : divB (cutL a f) c = true ↔ divB a (mulL c f) = true := by
  unfold cutL mulL
  rw [divB_iff (len_zw ha hf) hc.1, divB_iff ha (len_zw hc.1 hf)]
  constructor
  · intro h j hj
    have := h j hj
    rw [gd_zw ha hf hj] at this
    rw [gd_zw hc.1 hf hj]
    omega
  · intro h j hj
    have := h j hj
    rw [gd_zw hc.1 hf hj] at this
    rw [gd_zw ha hf hj]
    have := hc.at hj
    omega
theorem in_colon_by {A : List (List Int)} {f c : List Int} {n : Nat} (hA : ∀ a ∈ A, a.length = n) (hf : f.length = n) (hc : NN n c) : inL (minL (A.map fun a => cutL a f)) c = true ↔ inL A (mulL c f) = true := by
  rw [in_min (n := n) (fun s hs => by
    obtain ⟨a, ha, rfl⟩ := List.mem_map.mp hs
    exact len_zw (hA a ha) hf) hc.1, inL_iff]
  constructor
  · rintro ⟨g, hg, h⟩
    obtain ⟨a, ha, rfl⟩ := List.mem_map.mp hg
    exact ⟨a, ha, (div_cut_iff (hA a ha) hf hc).mp h⟩
  · rintro ⟨a, ha, h⟩
    exact ⟨_, List.mem_map.mpr ⟨a, ha, rfl⟩, (div_cut_iff (hA a ha) hf hc).mpr h⟩
end UC
end
section
set_option Elab.async false
set_option linter.all false
set_option maxRecDepth 100000
set_option maxHeartbeats 1000000
namespace UC
open PySem L2 DL RD
theorem lenLcm {a b : List Int} {n : Nat} (ha : a.length = n) (hb : b.length = n) : (lcmL a b).length = n := len_zw ha hb
theorem lenMul {a b : List Int} {n : Nat} (ha : a.length = n) (hb : b.length = n) : (mulL a b).length = n := len_zw ha hb
theorem lenCut {a b : List Int} {n : Nat} (ha : a.length = n) (hb : b.length = n) : (cutL a b).length = n := len_zw ha hb
structure Keeps (n : Nat) (h : List Int → List Int) : Prop where
  nn : ∀ a, NN n a → NN n (h a)
  mono : ∀ a b, NN n a → NN n b → divB a b = true → divB (h a) (h b) = true
abbrev NNs (n : Nat) (A : List (List Int)) : Prop := ∀ a ∈ A, NN n a
theorem NNs.len {n : Nat} {A : List (List Int)} (h : NNs n A) : ∀ a ∈ A, a.length = n := fun a ha => (h a ha).1
theorem NNs.map {n : Nat} {A : List (List Int)} {f : List Int → List Int} (kf : Keeps n f) (h : NNs n A) : NNs n (A.map f) := fun a ha => by
  obtain ⟨b, hb, rfl⟩ := List.mem_map.mp ha
  exact kf.nn b (h b hb)
theorem nn_lcm {n : Nat} {a b : List Int} (ha : NN n a) (hb : NN n b) : NN n (lcmL a b) := by
  refine ⟨len_zw ha.1 hb.1, fun x hx => ?_⟩
  unfold lcmL at hx
  rw [← range_zw ha.1 hb.1] at hx
  obtain ⟨j, hj, rfl⟩ := List.mem_map.mp hx
  rw [List.mem_range] at hj
  have h1 := ha.at hj
  have h2 := hb.at hj
  omega
theorem nn_cut {n : Nat} {a b : List Int} (ha : NN n a) (hb : NN n b) : NN n (cutL a b) := by
  refine ⟨len_zw ha.1 hb.1, fun x hx => ?_⟩
  unfold cutL at hx
  rw [← range_zw ha.1 hb.1] at hx
  obtain ⟨j, hj, rfl⟩ := List.mem_map.mp hx
  omega
theorem Idl.nns {n : Nat} {w : Int} {c : Nat} {A : List (List Int)} (h : Idl n w c A) : NNs n A := fun a ha => (h.2.2 a ha).nn
end UC
end
section
set_option Elab.async false
set_option linter.all false
set_option maxRecDepth 100000
set_option maxHeartbeats 1000000
namespace UC
open PySem L2 DL RD
theorem ris_nodup {L : List (List Int)} (h : RisL L) : L.Nodup := List.Pairwise.imp (fun h e => by rw [e, lexL_irr] at h; cases h) h
theorem nn_of_gd {n : Nat} {a : List Int} (h : a.length = n) (k : ∀ j < n, 0 ≤ gd a j) : NN n a := ⟨h, fun x hx => by
  obtain ⟨j, hj, rfl⟩ := List.mem_iff_getElem.mp hx
  rw [gd_eq hj]
  exact k j (by omega)⟩
def addA (K : List (List Int)) (a : List Int) : List (List Int) := if a ∈ K then K else K ++ [a]
theorem mem_addA {K : List (List Int)} {a x : List Int} : x ∈ addA K a ↔ x ∈ K ∨ x = a := by
  unfold addA
  split
  · rename_i h
    exact ⟨.inl, fun z => z.elim id fun e => by rw [e]; exact h⟩
  · rw [List.mem_append, List.mem_singleton]
theorem mem_addAs {x : List Int} : ∀ {ys K : List (List Int)}, x ∈ ys.foldl addA K ↔ x ∈ K ∨ x ∈ ys
  | [], K => by simp
  | y :: ys, K => by
    rw [List.foldl_cons, mem_addAs, mem_addA, List.mem_cons]
    constructor
    · rintro ((h | h) | h)
      · exact .inl h
      · exact .inr (.inl h)
      · exact .inr (.inr h)
    · rintro (h | h | h)
      · exact .inl (.inl h)
      · exact .inl (.inr h)
      · exact .inr h
theorem len_addAs : ∀ (ys K : List (List Int)), (ys.foldl addA K).length ≤ K.length + ys.length
  | [], K => Nat.le_refl _
  | y :: ys, K => by
    rw [List.foldl_cons, List.length_cons]
    refine Nat.le_trans (len_addAs ys (addA K y)) ?_
    have : (addA K y).length ≤ K.length + 1 := by
      unfold addA
      split
      · omega
      · rw [List.length_append]; exact Nat.le_refl _
    omega
def stepF (K : List (List Int)) (g : List Int) : List (List Int) := (K.map fun m => lcmL m g).foldl addA K
def mulF (n : Nat) (G : List (List Int)) : List (List Int) := G.foldl stepF [List.replicate n 0]
theorem mem_step {K : List (List Int)} {g x : List Int} : x ∈ stepF K g ↔ x ∈ K ∨ ∃ m ∈ K, x = lcmL m g := by
  unfold stepF
  rw [mem_addAs, List.mem_map]
  exact or_congr Iff.rfl ⟨fun ⟨m, h, e⟩ => ⟨m, h, e.symm⟩, fun ⟨m, h, e⟩ => ⟨m, h, e.symm⟩⟩
theorem len_step (K : List (List Int)) (g : List Int) : (stepF K g).length ≤ 2 * K.length := by
  have := len_addAs (K.map fun m => lcmL m g) K
  rw [List.length_map] at this
  show ((K.map fun m => lcmL m g).foldl addA K).length ≤ _
  omega
theorem len_mulF (n : Nat) (G : List (List Int)) : (mulF n G).length ≤ 2 ^ G.length := by
  have key : ∀ (G K : List (List Int)), (G.foldl stepF K).length ≤ K.length * 2 ^ G.length := by
    intro G
    induction G with
    | nil => intro K; simp
    | cons g G ih =>
      intro K
      rw [List.foldl_cons]
      refine Nat.le_trans (ih (stepF K g)) ?_
      rw [List.length_cons, Nat.pow_succ, Nat.mul_comm (2 ^ G.length) 2, ← Nat.mul_assoc]
      exact Nat.mul_le_mul_right _ (by rw [Nat.mul_comm]; exact len_step K g)
  have := key G [List.replicate n 0]
  simp only [List.length_cons, List.length_nil] at this
  unfold mulF
  omega
abbrev lcmF (n : Nat) (S : List (List Int)) : List Int := S.foldl lcmL (List.replicate n 0)
theorem mem_mulF {n : Nat} {G : List (List Int)} {x : List Int} : x ∈ mulF n G ↔ ∃ S, S.Sublist G ∧ x = lcmF n S := by
  have key : ∀ (ts pre K : List (List Int)), (∀ x, x ∈ K ↔ ∃ S, S.Sublist pre ∧ x = lcmF n S) → ∀ x, x ∈ ts.foldl stepF K ↔ ∃ S, S.Sublist (pre ++ ts) ∧ x = lcmF n S := by
    intro ts
    induction ts with
    | nil => intro pre K h x; rw [List.append_nil]; exact h x
    | cons t ts ih =>
      intro pre K h x
      rw [List.foldl_cons, show pre ++ t :: ts = (pre ++ [t]) ++ ts by simp]
      refine ih (pre ++ [t]) _ (fun y => ?_) x
      rw [mem_step]
      constructor
      · rintro (hy | ⟨m, hm, rfl⟩)
        · obtain ⟨S, hS, e⟩ := (h y).mp hy
          exact ⟨S, hS.trans (List.sublist_append_left _ _), e⟩
        · obtain ⟨S, hS, rfl⟩ := (h m).mp hm
          refine ⟨S ++ [t], hS.append (List.Sublist.refl _), ?_⟩
          show _ = (S ++ [t]).foldl lcmL _
          rw [List.foldl_append]
          rfl
      · rintro ⟨S, hS, rfl⟩
        obtain ⟨l1, l2, rfl, h1, h2⟩ := List.sublist_append_iff.mp hS
        cases l2 with
        | nil => exact .inl ((h _).mpr ⟨l1, h1, by rw [List.append_nil]⟩)
        | cons y r =>
          have hl := h2.length_le
          simp only [List.length_cons, List.length_nil] at hl
          have hr : r = [] := List.eq_nil_of_length_eq_zero (by omega)
          subst hr
          have e : y = t := List.mem_singleton.mp (h2.subset (List.mem_singleton.mpr rfl))
          subst e
          refine .inr ⟨lcmF n l1, (h _).mpr ⟨l1, h1, rfl⟩, ?_⟩
          show (l1 ++ [y]).foldl lcmL _ = _
          rw [List.foldl_append]
          rfl
  have := key G [] [List.replicate n 0] (fun y => by
    rw [List.mem_singleton]
    constructor
    · rintro rfl; exact ⟨[], List.Sublist.refl _, rfl⟩
    · rintro ⟨S, hS, rfl⟩
      rw [List.sublist_nil.mp hS]
      rfl) x
  rw [List.nil_append] at this
  exact this
section
variable {n : Nat} {G : List (List Int)}
theorem nn_zero : NN n (List.replicate n 0) := ⟨List.length_replicate .., fun x hx => by rw [(List.mem_replicate.mp hx).2]; decide⟩
theorem nn_lcmF : ∀ (S : List (List Int)) (z : List Int), NN n z → NNs n S → NN n (S.foldl lcmL z)
  | [], _, h, _ => h
  | s :: S, z, h, hS => nn_lcmF S (lcmL z s) (nn_lcm h (hS s List.mem_cons_self)) fun x hx => hS x (List.mem_cons_of_mem _ hx)
theorem nn_mulF (hG : NNs n G) : NNs n (mulF n G) := fun x hx => by
  obtain ⟨S, hS, rfl⟩ := mem_mulF.mp hx
  exact nn_lcmF S _ nn_zero fun y hy => hG y (hS.subset hy)
theorem gd_lcm {a b : List Int} {j : Nat} (ha : a.length = n) (hb : b.length = n) (hj : j < n) : gd (lcmL a b) j = max (gd a j) (gd b j) := gd_zw ha hb hj
theorem zero_mulF : List.replicate n 0 ∈ mulF n G := mem_mulF.mpr ⟨[], List.nil_sublist _, rfl⟩
end
end UC
end
section
set_option Elab.async false
set_option linter.all false
set_option maxRecDepth 100000
set_option maxHeartbeats 1000000
namespace UC
open PySem L2 DL RD
abbrev Tab := List (List Int × Int)
def evT (f : List Int → Int) : Tab → Int
  | [] => 0
  | p :: T => p.2 * f p.1 + evT f T
theorem ev_app (f : List Int → Int) : ∀ T T' : Tab, evT f (T ++ T') = evT f T + evT f T'
  | [], T' => by simp [evT]
  | p :: T, T' => by
    rw [List.cons_append, evT, evT, ev_app f T T']
    omega
theorem ev_cong {f g : List Int → Int} : ∀ {T : Tab}, (∀ p ∈ T, f p.1 = g p.1) → evT f T = evT g T
  | [], _ => rfl
  | p :: T, h => by
    rw [evT, evT, h p List.mem_cons_self, ev_cong (T := T) fun q hq => h q (List.mem_cons_of_mem _ hq)]
theorem ev_add (f g : List Int → Int) : ∀ T : Tab, evT (fun a => f a + g a) T = evT f T + evT g T
  | [] => rfl
  | p :: T => by
    rw [evT, evT, evT, ev_add f g T, Int.mul_add]
    omega
theorem ev_smul (c : Int) (f : List Int → Int) : ∀ T : Tab, evT (fun a => c * f a) T = c * evT f T
  | [] => by rw [evT, evT, Int.mul_zero]
  | p :: T => by
    rw [evT, evT, ev_smul c f T, Int.mul_add, Int.mul_left_comm]
theorem ev_mulr (c : Int) (f : List Int → Int) (T : Tab) : evT (fun a => f a * c) T = evT f T * c := by
  rw [Int.mul_comm, ← ev_smul]
  exact ev_cong fun p _ => Int.mul_comm _ _
theorem ev_zero : ∀ T : Tab, evT (fun _ => 0) T = 0
  | [] => rfl
  | p :: T => by rw [evT, ev_zero T, Int.mul_zero]; rfl
theorem ev_sum {α : Type} (F : α → List Int → Int) (T : Tab) : ∀ l : List α, evT (fun a => (l.map fun x => F x a).sum) T = (l.map fun x => evT (F x) T).sum
  | [] => ev_zero T
  | x :: l => by
    rw [List.map_cons, List.sum_cons, ← ev_sum F T l, ← ev_add]
    rfl
theorem ev_filter (f : List Int → Int) : ∀ T : Tab, evT f (T.filter fun p => decide (p.2 ≠ 0)) = evT f T
  | [] => rfl
  | p :: T => by
    rw [List.filter_cons]
    by_cases h : p.2 = 0
    · rw [if_neg (by simp [h]), ev_filter f T, evT, h, Int.zero_mul, Int.zero_add]
    · rw [if_pos (by simp [h]), evT, evT, ev_filter f T]
theorem ev_perm (f : List Int → Int) {T T' : Tab} (h : T.Perm T') : evT f T = evT f T' := by
  induction h with
  | nil => rfl
  | cons x _ ih => rw [evT, evT, ih]
  | swap x y l => simp only [evT]; omega
  | trans _ _ h1 h2 => rw [h1, h2]
def getZ : Tab → List Int → Int
  | [], _ => 0
  | p :: T, a => if p.1 = a then p.2 else getZ T a
def putZ (T : Tab) (a : List Int) (v : Int) : Tab := if (T.any fun p => decide (p.1 = a)) = true then T.map fun p => if p.1 = a then (p.1, v) else p else T ++ [(a, v)]
abbrev keysZ (T : Tab) : List (List Int) := T.map (·.1)
abbrev KN (T : Tab) : Prop := (keysZ T).Nodup
theorem any_key {T : Tab} {a : List Int} : (T.any fun p => decide (p.1 = a)) = true ↔ a ∈ keysZ T := by
  rw [List.any_eq_true, List.mem_map]
  exact ⟨fun ⟨p, h, e⟩ => ⟨p, h, of_decide_eq_true e⟩, fun ⟨p, h, e⟩ => ⟨p, h, decide_eq_true e⟩⟩
theorem get_none : ∀ {T : Tab} {a : List Int}, a ∉ keysZ T → getZ T a = 0
  | [], _, _ => rfl
  | p :: T, a, h0 => by
    have h : a ∉ p.1 :: keysZ T := h0
    rw [List.mem_cons, not_or] at h
    rw [getZ, if_neg (fun e => h.1 e.symm), get_none h.2]
theorem map_other : ∀ {T : Tab} {a : List Int} {v : Int}, a ∉ keysZ T → (T.map fun p => if p.1 = a then (p.1, v) else p) = T
  | [], _, _, _ => rfl
  | p :: T, a, v, h0 => by
    have h : a ∉ p.1 :: keysZ T := h0
    rw [List.mem_cons, not_or] at h
    rw [List.map_cons, if_neg (fun e => h.1 e.symm), map_other h.2]
theorem ev_put (f : List Int → Int) {T : Tab} (h : KN T) (a : List Int) (v : Int) : evT f (putZ T a v) = evT f T + (v - getZ T a) * f a := by
  unfold putZ
  split
  · rename_i ha
    rw [any_key] at ha
    induction T with
    | nil => cases ha
    | cons p T ih =>
      obtain ⟨h1, h2⟩ := List.nodup_cons.mp h
      rw [List.map_cons]
      by_cases e : p.1 = a
      · rw [map_other (e ▸ h1)]
        simp only [evT, if_pos e, getZ]
        rw [e, Int.sub_mul]
        omega
      · have ha' : a ∈ keysZ T := (List.mem_cons.mp ha).resolve_left fun z => e z.symm
        have := ih h2 ha'
        simp only [evT, if_neg e, getZ]
        omega
  · rename_i ha
    rw [any_key] at ha
    rw [ev_app, get_none ha, Int.sub_zero]
    simp [evT]
theorem keys_put (T : Tab) (a : List Int) (v : Int) : keysZ (putZ T a v) = addA (keysZ T) a := by
  unfold putZ addA
  split
  · rename_i ha
    rw [if_pos (any_key.mp ha)]
    unfold keysZ
    rw [List.map_map]
    refine List.map_congr_left fun p _ => ?_
    show (if p.1 = a then (p.1, v) else p).1 = p.1
    split <;> rfl
  · rename_i ha
    rw [if_neg fun z => ha (any_key.mpr z)]
    unfold keysZ
    rw [List.map_append]
    rfl
theorem nodup_addA {K : List (List Int)} {a : List Int} (h : K.Nodup) : (addA K a).Nodup := by
  unfold addA
  split
  · exact h
  · rename_i ha
    refine List.nodup_append.mpr ⟨h, List.nodup_cons.mpr ⟨List.not_mem_nil, List.nodup_nil⟩, fun x hx y hy e => ha ?_⟩
    rw [← List.mem_singleton.mp hy, ← e]
    exact hx
theorem kn_put {T : Tab} (h : KN T) (a : List Int) (v : Int) : KN (putZ T a v) := by
  show (keysZ _).Nodup
  rw [keys_put]
  exact nodup_addA h
def subZ (g : List Int) (T : Tab) (p : List Int × Int) : Tab := putZ T (lcmL p.1 g) (getZ T (lcmL p.1 g) - p.2)
def stepZ (g : List Int) (T : Tab) : Tab := T.foldl (subZ g) T
def tabZ (n : Nat) (G : List (List Int)) : Tab := G.foldl (fun T g => stepZ g T) [(List.replicate n 0, 1)]
theorem ev_subs (f : List Int → Int) (g : List Int) : ∀ (ps T : Tab), KN T → evT f (ps.foldl (subZ g) T) = evT f T - evT (fun a => f (lcmL a g)) ps ∧ KN (ps.foldl (subZ g) T)
  | [], T, h => ⟨by rw [List.foldl_nil, evT, Int.sub_zero], h⟩
  | p :: ps, T, h => by
    obtain ⟨h1, h2⟩ := ev_subs f g ps (subZ g T p) (kn_put h _ _)
    refine ⟨?_, h2⟩
    rw [List.foldl_cons, h1, evT]
    unfold subZ
    rw [ev_put f h]
    have : (getZ T (lcmL p.1 g) - p.2 - getZ T (lcmL p.1 g)) * f (lcmL p.1 g) = - (p.2 * f (lcmL p.1 g)) := by
      rw [← Int.neg_mul]
      congr 1
      omega
    rw [this]
    omega
theorem keys_subs (g : List Int) : ∀ (ps T : Tab), keysZ (ps.foldl (subZ g) T) = (ps.map fun p => lcmL p.1 g).foldl addA (keysZ T)
  | [], T => rfl
  | p :: ps, T => by
    rw [List.foldl_cons, keys_subs g ps, List.map_cons, List.foldl_cons]
    unfold subZ
    rw [keys_put]
theorem keys_step (g : List Int) (T : Tab) : keysZ (stepZ g T) = stepF (keysZ T) g := by
  unfold stepZ stepF
  rw [keys_subs, List.map_map]
  rfl
theorem keys_tab0 (n : Nat) (G : List (List Int)) : keysZ (tabZ n G) = mulF n G := by
  have key : ∀ (G : List (List Int)) (T : Tab), keysZ (G.foldl (fun T g => stepZ g T) T) = G.foldl stepF (keysZ T) := by
    intro G
    induction G with
    | nil => exact fun _ => rfl
    | cons g G ih =>
      intro T
      rw [List.foldl_cons, ih, keys_step]
      rfl
  exact key G _
theorem kn_step {g : List Int} {T : Tab} (h : KN T) : KN (stepZ g T) := (ev_subs (fun _ => 0) g T T h).2
theorem kn_foldT : ∀ (G : List (List Int)) (T : Tab), KN T → KN (G.foldl (fun T g => stepZ g T) T)
  | [], _, h => h
  | g :: G, T, h => kn_foldT G (stepZ g T) (kn_step h)
theorem kn_one (n : Nat) : KN [(List.replicate n 0, 1)] := List.nodup_cons.mpr ⟨List.not_mem_nil, List.nodup_nil⟩
theorem kn_tab (n : Nat) (G : List (List Int)) : KN (tabZ n G) := kn_foldT G _ (kn_one n)
theorem tab_snoc (n : Nat) (G : List (List Int)) (g : List Int) : tabZ n (G ++ [g]) = stepZ g (tabZ n G) := by
  unfold tabZ
  rw [List.foldl_append]
  rfl
theorem ev_step (f : List Int → Int) {g : List Int} {T : Tab} (h : KN T) : evT f (stepZ g T) = evT f T - evT (fun a => f (lcmL a g)) T := (ev_subs f g T T h).1
def chi (b a : List Int) : Int := if divB a b = true then 1 else 0
def chiI (G : List (List Int)) (b : List Int) : Int := if inL G b = true then 0 else 1
theorem chi_lcm {n : Nat} {a g b : List Int} (ha : a.length = n) (hg : g.length = n) (hb : b.length = n) : chi b (lcmL a g) = chi b a * chi b g := by
  unfold chi
  by_cases h1 : divB a b = true <;> by_cases h2 : divB g b = true
  · rw [if_pos ((div_lcm_iff ha hg hb).mpr ⟨h1, h2⟩), if_pos h1, if_pos h2]; rfl
  · rw [if_neg fun z => h2 ((div_lcm_iff ha hg hb).mp z).2, if_neg h2, Int.mul_zero]
  · rw [if_neg fun z => h1 ((div_lcm_iff ha hg hb).mp z).1, if_neg h1, Int.zero_mul]
  · rw [if_neg fun z => h2 ((div_lcm_iff ha hg hb).mp z).2, if_neg h2, Int.mul_zero]
theorem inL_snoc (G : List (List Int)) (g b : List Int) : inL (G ++ [g]) b = (inL G b || divB g b) := by
  unfold inL
  rw [List.any_append]
  simp
theorem zero_div {n : Nat} {b : List Int} (hb : NN n b) : divB (List.replicate n 0) b = true := (divB_iff (List.length_replicate ..) hb.1).mpr fun j hj => by
  rw [gd_rep hj]
  exact hb.at hj
theorem ev_tab {n : Nat} {G : List (List Int)} (hG : NNs n G) {b : List Int} (hb : NN n b) : evT (chi b) (tabZ n G) = chiI G b := by
  have key : ∀ (ts pre : List (List Int)) (T : Tab), NNs n ts → KN T → NNs n (keysZ T) → evT (chi b) T = chiI pre b → evT (chi b) (ts.foldl (fun T g => stepZ g T) T) = chiI (pre ++ ts) b := by
    intro ts
    induction ts with
    | nil => intro pre T _ _ _ h; rw [List.append_nil]; exact h
    | cons t ts ih =>
      intro pre T hts kn hT h
      have ht := hts t List.mem_cons_self
      rw [show pre ++ t :: ts = (pre ++ [t]) ++ ts by simp, List.foldl_cons]
      refine ih (pre ++ [t]) _ (fun x hx => hts x (List.mem_cons_of_mem _ hx)) (kn_step kn) ?_ ?_
      · rw [keys_step]
        intro x hx
        rcases mem_step.mp hx with hx | ⟨m, hm, rfl⟩
        · exact hT x hx
        · exact nn_lcm (hT m hm) ht
      · rw [ev_step _ kn, ev_cong (f := fun a => chi b (lcmL a t)) (g := fun a => chi b a * chi b t) fun p hp => chi_lcm (hT _ (List.mem_map.mpr ⟨p, hp, rfl⟩)).1 ht.1 hb.1, ev_mulr, h]
        unfold chiI chi
        rw [inL_snoc]
        cases inL pre b <;> cases divB t b <;> rfl
  refine key G [] _ hG (kn_one n) (fun x hx => ?_) ?_
  · rw [List.mem_singleton.mp hx]
    exact nn_zero
  · show 1 * chi b (List.replicate n 0) + 0 = _
    unfold chi
    rw [if_pos (zero_div hb)]
    rfl
theorem nn_tab {n : Nat} {G : List (List Int)} (hG : NNs n G) : ∀ p ∈ tabZ n G, NN n p.1 := fun p hp => by
  refine nn_mulF hG p.1 ?_
  rw [← keys_tab0]
  exact List.mem_map.mpr ⟨p, hp, rfl⟩
def absT : Tab → Nat
  | [] => 0
  | p :: T => p.2.natAbs + absT T
theorem abs_app : ∀ T T' : Tab, absT (T ++ T') = absT T + absT T'
  | [], T' => by simp [absT]
  | p :: T, T' => by rw [List.cons_append, absT, absT, abs_app T T']; omega
theorem abs_put {T : Tab} (h : KN T) (a : List Int) (v : Int) : absT (putZ T a (getZ T a - v)) ≤ absT T + v.natAbs := by
  unfold putZ
  split
  · rename_i ha
    rw [any_key] at ha
    induction T with
    | nil => cases ha
    | cons p T ih =>
      obtain ⟨h1, h2⟩ := List.nodup_cons.mp h
      rw [List.map_cons]
      by_cases e : p.1 = a
      · rw [map_other (e ▸ h1)]
        simp only [absT, if_pos e, getZ]
        omega
      · have ha' : a ∈ keysZ T := (List.mem_cons.mp ha).resolve_left fun z => e z.symm
        have := ih h2 ha'
        simp only [absT, if_neg e, getZ]
        omega
  · rename_i ha
    rw [any_key] at ha
    rw [abs_app, get_none ha]
    simp [absT]
theorem abs_subs (g : List Int) : ∀ (ps T : Tab), KN T → absT (ps.foldl (subZ g) T) ≤ absT T + absT ps
  | [], T, _ => Nat.le_refl _
  | p :: ps, T, h => by
    have h1 := abs_subs g ps (subZ g T p) (kn_put h _ _)
    have h2 : absT (subZ g T p) ≤ absT T + p.2.natAbs := abs_put h _ _
    rw [List.foldl_cons, absT]
    omega
theorem abs_tab (n : Nat) (G : List (List Int)) : absT (tabZ n G) ≤ 2 ^ G.length := by
  have key : ∀ (G : List (List Int)) (T : Tab), KN T → absT (G.foldl (fun T g => stepZ g T) T) ≤ absT T * 2 ^ G.length := by
    intro G
    induction G with
    | nil => intro T _; simp
    | cons g G ih =>
      intro T h
      rw [List.foldl_cons]
      refine Nat.le_trans (ih (stepZ g T) (kn_step h)) ?_
      rw [List.length_cons, Nat.pow_succ, Nat.mul_comm (2 ^ G.length) 2, ← Nat.mul_assoc]
      refine Nat.mul_le_mul_right _ ?_
      have := abs_subs g T T h
      show absT (T.foldl (subZ g) T) ≤ _
      omega
  have := key G _ (kn_one n)
  simp only [absT] at this
  unfold tabZ
  simp at this ⊢
  exact this
theorem ev_abs {f : List Int → Int} (hf : ∀ a, -1 ≤ f a ∧ f a ≤ 1) : ∀ T : Tab, (evT f T).natAbs ≤ absT T
  | [] => Nat.le_refl _
  | p :: T => by
    have h1 := ev_abs hf T
    have h2 : (p.2 * f p.1).natAbs ≤ p.2.natAbs := by
      rw [Int.natAbs_mul]
      have : (f p.1).natAbs ≤ 1 := by have := hf p.1; omega
      exact Nat.le_trans (Nat.mul_le_mul_left _ this) (by rw [Nat.mul_one]; exact Nat.le_refl _)
    have h3 := Int.natAbs_add_le (p.2 * f p.1) (evT f T)
    simp only [evT, absT]
    omega
structure Canon (n : Nat) (P : Tab) : Prop where
  ris : RisL (keysZ P)
  nn : ∀ p ∈ P, NN n p.1
  nz : ∀ p ∈ P, p.2 ≠ 0
theorem Canon.tail {n : Nat} {p : List Int × Int} {P : Tab} (h : Canon n (p :: P)) : Canon n P := ⟨(List.pairwise_cons.mp h.ris).2, fun q hq => h.nn q (List.mem_cons_of_mem _ hq), fun q hq => h.nz q (List.mem_cons_of_mem _ hq)⟩
theorem chi_self (a : List Int) : chi a a = 1 := if_pos (divB_refl a)
theorem chi_above {n : Nat} {a b : List Int} (ha : a.length = n) (hb : b.length = n) (h : lexL a b = true) : chi a b = 0 := by
  refine if_neg fun z => ?_
  rcases divB_lex (hb.trans ha.symm) z with e | e
  · rw [e, lexL_irr] at h; cases h
  · have := lexL_tr e h; rw [lexL_irr] at this; cases this
theorem ev_above {n : Nat} {a : List Int} (ha : a.length = n) {P : Tab} (hP : ∀ p ∈ P, NN n p.1 ∧ lexL a p.1 = true) : evT (chi a) P = 0 := by
  rw [ev_cong (g := fun _ => 0) fun p hp => chi_above ha (hP p hp).1.1 (hP p hp).2, ev_zero]
theorem Canon.head {n : Nat} {p : List Int × Int} {P : Tab} (h : Canon n (p :: P)) : evT (chi p.1) (p :: P) = p.2 := by
  have h1 := (List.pairwise_cons.mp h.ris).1
  rw [evT, chi_self, Int.mul_one, ev_above (h.nn p List.mem_cons_self).1 fun q hq => ⟨h.nn q (List.mem_cons_of_mem _ hq), h1 _ (List.mem_map.mpr ⟨q, hq, rfl⟩)⟩, Int.add_zero]
theorem Canon.below {n : Nat} {a : List Int} (ha : NN n a) {p : List Int × Int} {P : Tab} (h : Canon n (p :: P)) (hl : lexL a p.1 = true) : evT (chi a) (p :: P) = 0 := by
  refine ev_above ha.1 fun q hq => ⟨h.nn q hq, ?_⟩
  rcases List.mem_cons.mp hq with rfl | hq
  · exact hl
  · exact lexL_tr hl ((List.pairwise_cons.mp h.ris).1 _ (List.mem_map.mpr ⟨q, hq, rfl⟩))
theorem canon_uniq {n : Nat} : ∀ {P P' : Tab}, Canon n P → Canon n P' → (∀ b, NN n b → evT (chi b) P = evT (chi b) P') → P = P'
  | [], [], _, _, _ => rfl
  | p :: P, [], h, _, e => by
    have := e p.1 (h.nn p List.mem_cons_self)
    rw [h.head] at this
    exact absurd this (h.nz p List.mem_cons_self)
  | [], p :: P, _, h, e => by
    have := e p.1 (h.nn p List.mem_cons_self)
    rw [h.head] at this
    exact absurd this.symm (h.nz p List.mem_cons_self)
  | p :: P, q :: P', h, h', e => by
    have np := h.nn p List.mem_cons_self
    have nq := h'.nn q List.mem_cons_self
    rcases lexL_tri p.1 q.1 with l | l | l
    · have := e p.1 np
      rw [h.head, h'.below np l] at this
      exact absurd this (h.nz p List.mem_cons_self)
    · have h2 := e p.1 np
      rw [h.head, l, h'.head] at h2
      have e2 : p = q := Prod.ext l h2
      subst e2
      rw [canon_uniq h.tail h'.tail fun b hb => by
        have := e b hb
        simp only [evT] at this
        omega]
    · have := e q.1 nq
      rw [h'.head, h.below nq l] at this
      exact absurd this.symm (h'.nz q List.mem_cons_self)
def leP (p q : List Int × Int) : Bool := if q.1 = p.1 then !decide (q.2 < p.2) else !lexL q.1 p.1
theorem leP_tr (x y z : List Int × Int) (h1 : leP x y = true) (h2 : leP y z = true) : leP x z = true := by
  unfold leP at *
  by_cases a : y.1 = x.1
  · rw [if_pos a] at h1
    rw [← a]
    by_cases b : z.1 = y.1
    · rw [if_pos b] at h2 ⊢
      simp only [Bool.not_eq_true', decide_eq_false_iff_not] at *
      omega
    · rw [if_neg b] at h2 ⊢
      exact h2
  · rw [if_neg a] at h1
    by_cases b : z.1 = y.1
    · rw [b, if_neg a]; exact h1
    · rw [if_neg b] at h2
      have k1 : lexL x.1 y.1 = true := by
        rcases lexL_tri x.1 y.1 with e | e | e
        · exact e
        · exact absurd e.symm a
        · rw [e] at h1; cases h1
      have k2 : lexL y.1 z.1 = true := by
        rcases lexL_tri y.1 z.1 with e | e | e
        · exact e
        · exact absurd e.symm b
        · rw [e] at h2; cases h2
      have k3 := lexL_tr k1 k2
      rw [if_neg fun e => by rw [e, lexL_irr] at k3; cases k3]
      cases k4 : lexL z.1 x.1 with
      | false => rfl
      | true => have := lexL_tr k3 k4; rw [lexL_irr] at this; cases this
theorem leP_tot (x y : List Int × Int) : (leP x y || leP y x) = true := by
  unfold leP
  by_cases a : y.1 = x.1
  · rw [if_pos a, if_pos a.symm]
    by_cases h : y.2 < x.2
    · rw [decide_eq_true h, decide_eq_false (show ¬ x.2 < y.2 by omega)]; rfl
    · rw [decide_eq_false h]; rfl
  · rw [if_neg a, if_neg fun z => a z.symm]
    cases h : lexL y.1 x.1 with
    | false => rfl
    | true =>
      cases k : lexL x.1 y.1 with
      | false => rfl
      | true => have := lexL_tr h k; rw [lexL_irr] at this; cases this
def sortP (T : Tab) : Tab := T.mergeSort leP
theorem ris_sortP {T : Tab} (h : KN T) : RisL (keysZ (sortP T)) := by
  have pw := List.pairwise_mergeSort leP_tr leP_tot T
  have nd : ((keysZ (sortP T))).Nodup := ((List.mergeSort_perm T leP).map (·.1)).nodup_iff.mpr h
  refine List.pairwise_map.mpr ?_
  refine List.Pairwise.imp (fun {a b} hab => ?_) (List.Pairwise.and (List.pairwise_map.mp nd) pw)
  have h2 := hab.2
  unfold leP at h2
  rw [if_neg fun e => hab.1 e.symm] at h2
  rcases lexL_tri a.1 b.1 with e | e | e
  · exact e
  · exact absurd e hab.1
  · rw [e] at h2; cases h2
theorem mem_sortP {T : Tab} {p : List Int × Int} : p ∈ sortP T ↔ p ∈ T := (List.mergeSort_perm T leP).mem_iff
theorem ev_sortP (f : List Int → Int) (T : Tab) : evT f (sortP T) = evT f T := ev_perm f (List.mergeSort_perm T leP)
/-- what is told of a table -/
def canZ (T : Tab) : Tab := sortP (T.filter fun p => decide (p.2 ≠ 0))
theorem kn_filter {T : Tab} (h : KN T) (q : List Int × Int → Bool) : KN (T.filter q) := ((List.filter_sublist (p := q) (l := T)).map fun x : List Int × Int => x.1).nodup h
theorem canon_canZ {n : Nat} {T : Tab} (h : KN T) (hn : ∀ p ∈ T, NN n p.1) : Canon n (canZ T) :=
  ⟨ris_sortP (kn_filter h _), fun p hp => hn p (List.mem_filter.mp (mem_sortP.mp hp)).1, fun p hp => of_decide_eq_true (List.mem_filter.mp (mem_sortP.mp hp)).2⟩
theorem ev_canZ (f : List Int → Int) (T : Tab) : evT f (canZ T) = evT f T := (ev_sortP f _).trans (ev_filter f T)
/-- the numerator -/
def numL (n : Nat) (G : List (List Int)) : Tab := canZ (tabZ n G)
theorem canon_num {n : Nat} {G : List (List Int)} (hG : NNs n G) : Canon n (numL n G) := canon_canZ (kn_tab n G) (nn_tab hG)
theorem ev_num {n : Nat} {G : List (List Int)} (hG : NNs n G) {b : List Int} (hb : NN n b) : evT (chi b) (numL n G) = chiI G b := by
  rw [numL, ev_canZ, ev_tab hG hb]
theorem num_eq {n : Nat} {G : List (List Int)} {P : Tab} (hG : NNs n G) (h : Canon n P) (e : ∀ b, NN n b → evT (chi b) P = chiI G b) : P = numL n G :=
  canon_uniq h (canon_num hG) fun b hb => (e b hb).trans (ev_num hG hb).symm
end UC
end
section
set_option Elab.async false
set_option linter.all false
set_option maxRecDepth 100000
set_option maxHeartbeats 1000000
namespace UC
open PySem L2 DL RD
def degR : Nat → Nat → List (List Int)
  | 0, d => if d = 0 then [[]] else []
  | n + 1, d => (List.range (d + 1)).flatMap fun j => (degR n j).map fun a => ((d - j : Nat) : Int) :: a
theorem nn_sum {n : Nat} {a : List Int} (h : NN n a) : 0 ≤ a.sum := by
  have h2 := h.2
  clear h
  induction a with
  | nil => exact Int.le_refl 0
  | cons x a ih =>
    rw [List.sum_cons]
    have h3 := h2 x List.mem_cons_self
    have h4 := ih fun y hy => h2 y (List.mem_cons_of_mem _ hy)
    omega
theorem nn_cons {n : Nat} {x : Int} {a : List Int} : NN (n + 1) (x :: a) ↔ 0 ≤ x ∧ NN n a :=
  ⟨fun h => ⟨h.2 x List.mem_cons_self, by have := h.1; rw [List.length_cons] at this; omega, fun y hy => h.2 y (List.mem_cons_of_mem _ hy)⟩, fun h => ⟨by rw [List.length_cons, h.2.1], fun y hy => by rcases List.mem_cons.mp hy with rfl | hy; exact h.1; exact h.2.2 y hy⟩⟩
theorem mem_degR : ∀ {n d : Nat} {a : List Int}, a ∈ degR n d ↔ NN n a ∧ a.sum = d
  | 0, d, a => by
    unfold degR
    constructor
    · intro h
      split at h
      · rw [List.mem_singleton.mp h]
        rename_i e
        exact ⟨⟨rfl, fun x hx => nomatch hx⟩, by rw [e]; rfl⟩
      · cases h
    · rintro ⟨⟨h1, _⟩, h2⟩
      have e := List.eq_nil_of_length_eq_zero h1
      subst e
      have e : d = 0 := by
        have : (0 : Int) = d := h2
        omega
      rw [if_pos e]
      exact List.mem_singleton.mpr rfl
  | n + 1, d, a => by
    unfold degR
    rw [List.mem_flatMap]
    constructor
    · rintro ⟨j, hj, h⟩
      obtain ⟨b, hb, rfl⟩ := List.mem_map.mp h
      rw [List.mem_range] at hj
      obtain ⟨h1, h2⟩ := mem_degR.mp hb
      refine ⟨nn_cons.mpr ⟨by omega, h1⟩, ?_⟩
      rw [List.sum_cons, h2]
      omega
    · rintro ⟨h1, h2⟩
      cases a with
      | nil => cases h1.1
      | cons x a =>
        obtain ⟨h3, h4⟩ := nn_cons.mp h1
        have h5 := nn_sum h4
        rw [List.sum_cons] at h2
        refine ⟨a.sum.toNat, List.mem_range.mpr (by omega), List.mem_map.mpr ⟨a, mem_degR.mpr ⟨h4, by omega⟩, ?_⟩⟩
        rw [show ((d - a.sum.toNat : Nat) : Int) = x by omega]
theorem nodup_degR : ∀ n d : Nat, (degR n d).Nodup
  | 0, d => by
    unfold degR
    split
    · exact List.nodup_cons.mpr ⟨List.not_mem_nil, List.nodup_nil⟩
    · exact List.nodup_nil
  | n + 1, d => by
    unfold degR
    refine List.pairwise_flatMap.mpr ⟨fun j _ => List.pairwise_map.mpr (List.Pairwise.imp (fun h e => h (List.cons.inj e).2) (nodup_degR n j)), ?_⟩
    refine List.Pairwise.imp (fun {i j} hij x hx y hy e => ?_) (List.nodup_range (n := d + 1))
    obtain ⟨a, ha, rfl⟩ := List.mem_map.mp hx
    obtain ⟨b, hb, rfl⟩ := List.mem_map.mp hy
    have e2 := (List.cons.inj e).2
    subst e2
    have h1 := (mem_degR.mp ha).2
    have h2 := (mem_degR.mp hb).2
    exact hij (by omega)
def cntD (n d : Nat) : Nat := (degR n d).length
theorem cnt_zero (d : Nat) : cntD 0 d = if d = 0 then 1 else 0 := by
  unfold cntD degR
  split <;> rfl
theorem cnt_succ (n d : Nat) : cntD (n + 1) d = ((List.range (d + 1)).map fun j => cntD n j).sum := by
  unfold cntD
  rw [degR, List.length_flatMap]
  congr 1
  refine List.map_congr_left fun j _ => ?_
  rw [List.length_map]
theorem sum_mul : ∀ {a b : List Int}, a.length = b.length → (mulL a b).sum = a.sum + b.sum
  | [], [], _ => rfl
  | x :: a, y :: b, h => by
    have := sum_mul (a := a) (b := b) (by simpa using h)
    unfold mulL at this ⊢
    rw [List.zipWith_cons_cons, List.sum_cons, List.sum_cons, List.sum_cons, this]
    omega
theorem div_split {n : Nat} {a c : List Int} (ha : NN n a) (hc : NN n c) (h : divB a c = true) : ∃ b, NN n b ∧ c = mulL a b := by
  have hd := (divB_iff ha.1 hc.1).mp h
  have hl : (List.zipWith (fun x y => x - y) c a).length = n := len_zw hc.1 ha.1
  refine ⟨List.zipWith (fun x y => x - y) c a, nn_of_gd hl fun j hj => ?_, (gd_ext hc.1 (len_zw ha.1 hl)).mpr fun j hj => ?_⟩
  · rw [gd_zw hc.1 ha.1 hj]
    have := hd j hj
    omega
  · rw [gd_zw ha.1 hl hj, gd_zw hc.1 ha.1 hj]
    omega
theorem mul_inj {n : Nat} {a b b' : List Int} (ha : a.length = n) (hb : b.length = n) (hb' : b'.length = n) (h : mulL a b = mulL a b') : b = b' := by
  rw [gd_ext hb hb']
  intro j hj
  have := congrArg (fun z => gd z j) h
  simp only [mulL] at this
  rw [gd_zw ha hb hj, gd_zw ha hb' hj] at this
  omega
theorem div_mulL {n : Nat} {a b : List Int} (ha : NN n a) (hb : NN n b) : divB a (mulL a b) = true := (divB_iff ha.1 (len_zw ha.1 hb.1)).mpr fun j hj => by
  rw [gd_zw ha.1 hb.1 hj]
  have := hb.at hj
  omega
def hC (n d : Nat) (m : Int) : Int := if m ≤ d then (cntD n (d - m).toNat : Int) else 0
theorem cnt_div {n d : Nat} {a : List Int} (ha : NN n a) : (((degR n d).filter fun b => divB a b).length : Int) = hC n d a.sum := by
  unfold hC
  split
  · rename_i h
    have h0 := nn_sum ha
    unfold cntD
    have : ((degR n d).filter fun b => divB a b).Perm ((degR n (d - a.sum).toNat).map (mulL a)) := by
      refine (List.perm_ext_iff_of_nodup ((nodup_degR n d).sublist List.filter_sublist) (List.pairwise_map.mpr (List.Pairwise.imp_of_mem (fun hb hb' hne e => hne (mul_inj ha.1 (mem_degR.mp hb).1.1 (mem_degR.mp hb').1.1 e)) (nodup_degR n _)))).mpr fun c => ?_
      rw [List.mem_filter, List.mem_map, mem_degR]
      constructor
      · rintro ⟨⟨h1, h2⟩, h3⟩
        obtain ⟨b, hb, rfl⟩ := div_split ha h1 h3
        rw [sum_mul (ha.1.trans hb.1.symm)] at h2
        exact ⟨b, mem_degR.mpr ⟨hb, by omega⟩, rfl⟩
      · rintro ⟨b, hb, rfl⟩
        obtain ⟨h1, h2⟩ := mem_degR.mp hb
        refine ⟨⟨nn_mul ha h1, ?_⟩, div_mulL ha h1⟩
        rw [sum_mul (ha.1.trans h1.1.symm), h2]
        omega
    rw [this.length_eq, List.length_map]
  · rename_i h
    rw [List.filter_eq_nil_iff.mpr]
    · rfl
    · intro c hc hd
      obtain ⟨h1, h2⟩ := mem_degR.mp hc
      obtain ⟨b, hb, rfl⟩ := div_split ha h1 hd
      rw [sum_mul (ha.1.trans hb.1.symm)] at h2
      have := nn_sum hb
      omega
theorem sum_ite {α : Type} (q : α → Bool) : ∀ l : List α, (l.map fun x => if q x = true then (1 : Int) else 0).sum = ((l.filter q).length : Int)
  | [] => rfl
  | x :: l => by
    rw [List.map_cons, List.sum_cons, sum_ite q l, List.filter_cons]
    split
    · rw [List.length_cons]; omega
    · omega
/-- how many of a degree do not lie in the ideal -/
def leftN (n : Nat) (G : List (List Int)) (d : Nat) : Nat := ((degR n d).filter fun b => !inL G b).length
theorem left_ev {n : Nat} {G : List (List Int)} (hG : NNs n G) (d : Nat) : (leftN n G d : Int) = evT (fun a => hC n d a.sum) (tabZ n G) := by
  have e1 : evT (fun a => hC n d a.sum) (tabZ n G) = evT (fun a => ((degR n d).map fun b => chi b a).sum) (tabZ n G) := ev_cong fun p hp => by
    rw [← cnt_div (nn_tab hG p hp), ← sum_ite]
    rfl
  have e2 : ((degR n d).map fun b => evT (chi b) (tabZ n G)) = (degR n d).map fun b => if (!inL G b) = true then (1 : Int) else 0 := List.map_congr_left fun b hb => by
    rw [ev_tab hG (mem_degR.mp hb).1]
    unfold chiI
    cases inL G b <;> rfl
  rw [e1, ev_sum (fun b => chi b), e2, sum_ite]
  rfl
def rowE (h : Nat → Int) : List Int → Nat → Int
  | [], _ => 0
  | x :: r, i => x * h i + rowE h r (i + 1)
abbrev rowEv (h : Nat → Int) (r : List Int) : Int := rowE h r 0
theorem row_app (h : Nat → Int) : ∀ (r r' : List Int) (i : Nat), rowE h (r ++ r') i = rowE h r i + rowE h r' (i + r.length)
  | [], r', i => by simp [rowE]
  | x :: r, r', i => by
    rw [List.cons_append, rowE, rowE, row_app h r r' (i + 1), List.length_cons, show i + 1 + r.length = i + (r.length + 1) by omega]
    omega
theorem row_zeros (h : Nat → Int) : ∀ (k i : Nat), rowE h (List.replicate k 0) i = 0
  | 0, _ => rfl
  | k + 1, i => by rw [List.replicate_succ, rowE, row_zeros h k, Int.zero_mul]; rfl
theorem row_pad (h : Nat → Int) (r : List Int) (k i : Nat) : rowE h (r ++ List.replicate k 0) i = rowE h r i := by
  rw [row_app, row_zeros, Int.add_zero]
theorem row_delta (e : Nat) : ∀ (r : List Int) (i : Nat), rowE (fun j => if j = e then 1 else 0) r i = if i ≤ e then r.getD (e - i) 0 else 0
  | [], i => by simp [rowE]
  | x :: r, i => by
    rw [rowE, row_delta e r (i + 1)]
    by_cases h : i = e
    · subst h
      rw [if_pos rfl, if_neg (by omega), if_pos (Nat.le_refl _), Nat.sub_self]
      simp
    · rw [if_neg h]
      by_cases h2 : i + 1 ≤ e
      · rw [if_pos h2, if_pos (by omega), show e - i = (e - (i + 1)) + 1 by omega, List.getD_cons_succ]
        omega
      · rw [if_neg h2, if_neg (by omega)]
        omega
theorem row_at (e : Nat) (r : List Int) : rowEv (fun j => if j = e then 1 else 0) r = r.getD e 0 := by
  rw [rowEv, row_delta, if_pos (Nat.zero_le _)]
  rfl
theorem row_map (h f : Nat → Int) : ∀ (L : Nat), rowEv h ((List.range L).map f) = ((List.range L).map fun e => f e * h e).sum
  | 0 => rfl
  | L + 1 => by
    rw [List.range_succ, List.map_append, List.map_append, rowEv, row_app, List.sum_append, ← row_map h f L, List.length_map, List.length_range, Nat.zero_add]
    simp [rowE]
theorem sum_delta (h : Nat → Int) (m : Nat) : ∀ L : Nat, ((List.range L).map fun e => (if e = m then (1 : Int) else 0) * h e).sum = if m < L then h m else 0
  | 0 => rfl
  | L + 1 => by
    rw [List.range_succ, List.map_append, List.sum_append, sum_delta h m L]
    simp only [List.map_cons, List.map_nil, List.sum_cons, List.sum_nil]
    by_cases a : m < L
    · rw [if_pos a, if_pos (show m < L + 1 by omega), if_neg (show ¬ L = m by omega)]
      omega
    · rw [if_neg a]
      by_cases b : L = m
      · rw [if_pos b, if_pos (show m < L + 1 by omega), b]
        omega
      · rw [if_neg b, if_neg (show ¬ m < L + 1 by omega)]
        omega
def Strp (r : List Int) : Prop := ∀ h : r ≠ [], r.getLast h ≠ 0
/-- the sums of the numerator by degree -/
structure IsGr (n : Nat) (G : List (List Int)) (r : List Int) : Prop where
  strp : Strp r
  ev : ∀ h : Nat → Int, rowEv h r = evT (fun a => h a.sum.toNat) (tabZ n G)
theorem raw_ev {P : Tab} {L : Nat} (hP : ∀ p ∈ P, p.1.sum.toNat < L) (h : Nat → Int) : rowEv h ((List.range L).map fun e => evT (fun a => if a.sum.toNat = e then 1 else 0) P) = evT (fun a => h a.sum.toNat) P := by
  rw [row_map]
  have e1 : ((List.range L).map fun e => evT (fun a => if a.sum.toNat = e then 1 else 0) P * h e) = (List.range L).map fun e => evT (fun a => (if a.sum.toNat = e then 1 else 0) * h e) P := List.map_congr_left fun e _ => (ev_mulr (h e) _ P).symm
  rw [e1, ← ev_sum (fun e a => (if a.sum.toNat = e then (1 : Int) else 0) * h e)]
  refine ev_cong fun p hp => ?_
  have := sum_delta h p.1.sum.toNat L
  rw [if_pos (hP p hp)] at this
  rw [← this]
  congr 1
  refine List.map_congr_left fun e _ => ?_
  by_cases z : e = p.1.sum.toNat
  · rw [if_pos z, if_pos z.symm]
  · rw [if_neg z, if_neg fun y => z y.symm]
theorem gr_abs {n : Nat} {G : List (List Int)} {r : List Int} (h : IsGr n G r) {i : Nat} (hi : i < r.length) : r[i].natAbs ≤ 2 ^ G.length := by
  have e : r[i] = r.getD i 0 := by rw [List.getD_eq_getElem?_getD, List.getElem?_eq_getElem hi]; rfl
  rw [e, ← row_at, h.ev]
  refine Nat.le_trans (ev_abs (fun a => ?_) _) (abs_tab n G)
  show -1 ≤ (if a.sum.toNat = i then (1 : Int) else 0) ∧ (if a.sum.toNat = i then (1 : Int) else 0) ≤ 1
  split <;> omega
end UC
end
section
set_option Elab.async false
set_option linter.all false
set_option maxRecDepth 100000
set_option maxHeartbeats 1000000
namespace UC
open PySem L2 DL RD
def pairP (p : List Int × Int) : PyData := .tuple [TI p.1, .int p.2]
abbrev PT (P : Tab) : PyData := .tuple (P.map pairP)
theorem eqk_pair : EqK pairP := fun p q => by
  unfold pairP
  rw [PyData.eqv, PyData.eqvAll, PyData.eqvAll, PyData.eqvAll, eqv_TI, eqv_int, Bool.and_true]
  rw [Bool.eq_iff_iff, Bool.and_eq_true, decide_eq_true_eq, decide_eq_true_eq, decide_eq_true_eq]
  exact ⟨fun h => Prod.ext h.1 h.2, fun h => by rw [h]; exact ⟨rfl, rfl⟩⟩
theorem eqv_PT (x y : Tab) : PyData.eqv (PT x) (PT y) = decide (x = y) := eqk_tuple eqk_pair x y
theorem sh_pair {n : Nat} {p : List Int × Int} : Sh (n + 2) (pairP p) := sh_tuple (n := n + 1) fun x hx => by
  rcases List.mem_cons.mp hx with rfl | hx
  · exact sh_TI
  · rw [List.mem_singleton.mp hx]
    exact sh_int
theorem shaped_PT {P : Tab} : SeqAt.shaped (PT P) = true := (sh_tuple (n := 63) (forall_map fun _ _ => sh_pair)).shaped
theorem alike_pair (p q : List Int × Int) : PySem.W.alike (pairP p) (pairP q) = true := by
  unfold pairP
  simp only [PySem.W.alike, PySem.W.alikeAll, BS.alike_ints2]
  rfl
theorem alike_pairs (T : Tab) : PySem.W.AllAlike (T.map pairP) := PySem.W.AllAlike.of fun a b => alike_pair a b
theorem sortX_pairs (T : Tab) : BS.SortX (T.map pairP) := .inr fun d hd => by
  obtain ⟨t, ht, rfl⟩ := List.mem_map.mp hd
  exact ⟨_, rfl⟩
theorem depth_pairs {T : Tab} : ∀ d ∈ T.map pairP, d.depth ≤ 16 := fun d hd => by
  obtain ⟨t, ht, rfl⟩ := List.mem_map.mp hd
  have : (pairP t).depth ≤ 2 := (sh_pair (n := 0)).2
  omega
theorem lt_pair (p q : List Int × Int) : PySem.W.dataLt (pairP p) (pairP q) = if p.1 = q.1 then decide (p.2 < q.2) else lexL p.1 q.1 := by
  unfold pairP
  rw [PySem.W.dataLt_tuple]
  have h1 : PySem.W.alike (TI p.1) (TI q.1) = true := BS.alike_ints2 p.1 q.1
  by_cases e : p.1 = q.1
  · rw [if_pos e, PySem.W.dataLt_all_yes h1 (by rw [eqv_TI]; exact decide_eq_true e)]
    by_cases e2 : p.2 = q.2
    · rw [PySem.W.dataLt_all_yes (by simp [PySem.W.alike]) (by rw [eqv_int]; exact decide_eq_true e2), e2, decide_eq_false (Int.lt_irrefl _)]
      rfl
    · rw [PySem.W.dataLt_all_no (by simp [PySem.W.alike]) (by rw [eqv_int]; exact decide_eq_false e2), PySem.W.dataLt_int]
  · rw [if_neg e, PySem.W.dataLt_all_no h1 (by rw [eqv_TI]; exact decide_eq_false e)]
    exact BS.data_lexL _ _
theorem leD_pair (p q : List Int × Int) : leD (pairP p) (pairP q) = leP p q := by
  show (!PySem.W.dataLt (pairP q) (pairP p)) = _
  rw [lt_pair]
  unfold leP
  split <;> rfl
theorem sort_pairs (T : Tab) : (T.map pairP).mergeSort leD = (sortP T).map pairP :=
  (List.map_mergeSort (f := pairP) (s := leD) fun a _ b _ => (leD_pair a b).symm).symm
def vT (T : Tab) : List (List Int × DV) := T.map fun p => (p.1, I p.2)
theorem len_vT (T : Tab) : (vT T).length = T.length := List.length_map ..
theorem keys_vT (T : Tab) : (vT T).map (·.1) = keysZ T := by
  unfold vT
  rw [List.map_map]
  rfl
theorem put_vT (T : Tab) (a : List Int) (v : Int) : putT (vT T) a (I v) = vT (putZ T a v) := by
  unfold putT putZ vT
  rw [List.any_map]
  have e : ((fun p : List Int × DV => decide (p.1 = a)) ∘ fun p : List Int × Int => (p.1, I p.2)) = fun p => decide (p.1 = a) := rfl
  rw [e]
  split
  · rw [List.map_map, List.map_map]
    refine List.map_congr_left fun p _ => ?_
    show (if p.1 = a then (p.1, I v) else (p.1, I p.2)) = ((if p.1 = a then (p.1, v) else p).1, I (if p.1 = a then (p.1, v) else p).2)
    split <;> rfl
  · rw [List.map_append]
    rfl
theorem dput_vT (T : Tab) (a : List Int) (v : Int) (h : T.length < sizeLine) : dput (some (.dT (tabD (vT T)))) (.d (TI a)) (I v) = some (.dT (tabD (vT (putZ T a v)))) := by
  rw [dput_tab _ _ _ (by rw [len_vT]; exact h), put_vT]
theorem look_vT (T : Tab) (a : List Int) : ∃ o, dlook (some (.dT (tabD (vT T)))) (.d (TI a)) = some o ∧ o.getD (I 0) = I (getZ T a) := by
  refine ⟨lookD (tabD (vT T)) (a.map Sum.inl), ?_, ?_⟩
  · show (match titems (.d (TI a)) with | some ys => (keyT ys).map fun q => lookD (tabD (vT T)) q | none => none) = _
    rw [show titems (.d (TI a)) = some ((a.map PyData.int).map DV.d) from rfl]
    show ((keyT ((a.map PyData.int).map DV.d)).map fun q => lookD (tabD (vT T)) q) = _
    rw [keyT_ints]
    rfl
  · unfold lookD tabD vT
    rw [List.map_map]
    induction T with
    | nil => rfl
    | cons p T ih =>
      rw [List.map_cons, List.find?_cons]
      show (Option.map _ (match decide ((p.1.map Sum.inl : List Key) = a.map Sum.inl) with | true => _ | false => _)).getD _ = _
      rw [dec_inl, getZ]
      by_cases e : p.1 = a
      · rw [decide_eq_true e, if_pos e]
        rfl
      · rw [decide_eq_false e, if_neg e]
        exact ih
theorem items_vT (T : Tab) : itemsD (tabD (vT T)) = (T.map pairP).map DV.d := by
  unfold itemsD tabD vT
  rw [List.map_map, List.map_map, List.map_map]
  refine List.map_congr_left fun p _ => ?_
  show mkT [tupD ((p.1.map Sum.inl : List Key).map BS.keyInt), I p.2] = _
  rw [BS.keyInts_inl]
  rfl
def getK : List (Int × Int) → Int → Int
  | [], _ => 0
  | p :: S, a => if p.1 = a then p.2 else getK S a
def putK (S : List (Int × Int)) (a v : Int) : List (Int × Int) := if (S.any fun p => decide (p.1 = a)) = true then S.map fun p => if p.1 = a then (p.1, v) else p else S ++ [(a, v)]
theorem getK_put (S : List (Int × Int)) (a v e : Int) : getK (putK S a v) e = if e = a then v else getK S e := by
  unfold putK
  split
  · rename_i h
    induction S with
    | nil => simp at h
    | cons p S ih =>
      rw [List.map_cons]
      by_cases e1 : p.1 = a
      · rw [if_pos e1]
        by_cases e2 : e = a
        · rw [if_pos e2, getK, if_pos (e1.trans e2.symm)]
        · rw [if_neg e2, getK, getK, if_neg (fun z => e2 (z.symm.trans e1)), if_neg (fun z => e2 (z.symm.trans e1))]
          clear ih h
          induction S with
          | nil => rfl
          | cons q S ih =>
            rw [List.map_cons, getK]
            by_cases e3 : q.1 = a
            · rw [if_pos e3, if_neg (fun z => e2 (z.symm.trans e3)), ih, getK, if_neg (fun z => e2 (z.symm.trans e3))]
            · rw [if_neg e3, getK, ih]
      · rw [if_neg e1, getK, getK]
        have h' : (S.any fun p => decide (p.1 = a)) = true := by
          rw [List.any_cons, decide_eq_false e1, Bool.false_or] at h
          exact h
        rw [ih h']
        by_cases e2 : e = a
        · rw [if_pos e2, if_pos e2, if_neg (fun z => e1 (z.trans e2))]
        · rw [if_neg e2, if_neg e2]
  · rename_i h
    induction S with
    | nil =>
      show (if a = e then v else 0) = if e = a then v else 0
      by_cases e2 : e = a
      · rw [if_pos e2, if_pos e2.symm]
      · rw [if_neg e2, if_neg fun z => e2 z.symm]
    | cons p S ih =>
      rw [List.any_cons, Bool.or_eq_true, not_or] at h
      have e1 : p.1 ≠ a := fun z => h.1 (decide_eq_true z)
      rw [List.cons_append, getK, getK, ih h.2]
      by_cases e2 : e = a
      · rw [if_pos e2, if_pos e2, if_neg (fun z => e1 (z.trans e2))]
      · rw [if_neg e2, if_neg e2]
theorem mem_putK {S : List (Int × Int)} {a v : Int} {x : Int} : x ∈ (putK S a v).map (·.1) ↔ x ∈ S.map (·.1) ∨ x = a := by
  unfold putK
  split
  · rename_i h
    have e : (S.map fun p => if p.1 = a then (p.1, v) else p).map (·.1) = S.map (·.1) := by
      rw [List.map_map]
      refine List.map_congr_left fun p _ => ?_
      show (if p.1 = a then (p.1, v) else p).1 = p.1
      split <;> rfl
    rw [e]
    refine ⟨.inl, fun z => z.elim id fun z => ?_⟩
    obtain ⟨p, hp, ep⟩ := List.any_eq_true.mp h
    rw [z, ← of_decide_eq_true ep]
    exact List.mem_map.mpr ⟨p, hp, rfl⟩
  · rw [List.map_append, List.mem_append, List.map_singleton, List.mem_singleton]
theorem len_putK (S : List (Int × Int)) (a v : Int) : (putK S a v).length ≤ S.length + 1 := by
  unfold putK
  split
  · rw [List.length_map]; omega
  · rw [List.length_append, List.length_singleton]; exact Nat.le_refl _
def tabK (S : List (Int × Int)) : List (Key × DV) := S.map fun p => (Sum.inl p.1, I p.2)
theorem dec_key (a b : Int) : decide ((Sum.inl a : Key) = Sum.inl b) = decide (a = b) := by
  rw [Bool.eq_iff_iff, decide_eq_true_eq, decide_eq_true_eq]
  exact ⟨fun h => Sum.inl.inj h, fun h => by rw [h]⟩
theorem dput_vK (S : List (Int × Int)) (a v : Int) (h : S.length < sizeLine) : dput (some (.dK (tabK S))) (I a) (I v) = some (.dK (tabK (putK S a v))) := by
  show (match keyD (I a) with | some q => if (tabK S).length < sizeLine then some (MO.dK (putD (tabK S) q (I v))) else none | none => none) = _
  rw [show keyD (I a) = some (Sum.inl a) from rfl]
  show (if (tabK S).length < sizeLine then some (MO.dK (putD (tabK S) (Sum.inl a) (I v))) else none) = _
  rw [if_pos (by unfold tabK; rw [List.length_map]; exact h)]
  unfold putD putK tabK
  rw [List.any_map]
  have e : ((fun kv : Key × DV => decide (kv.1 = Sum.inl a)) ∘ fun p : Int × Int => ((Sum.inl p.1 : Key), I p.2)) = fun p => decide (p.1 = a) := funext fun p => dec_key p.1 a
  rw [e]
  split
  · rw [List.map_map, List.map_map]
    congr 2
    refine List.map_congr_left fun p _ => ?_
    show (if (Sum.inl p.1 : Key) = Sum.inl a then ((Sum.inl p.1 : Key), I v) else (Sum.inl p.1, I p.2)) = (Sum.inl (if p.1 = a then (p.1, v) else p).1, I (if p.1 = a then (p.1, v) else p).2)
    by_cases h : p.1 = a
    · rw [if_pos h, if_pos (by rw [h])]
    · rw [if_neg h, if_neg (fun z => h (Sum.inl.inj z))]
  · rw [List.map_append]
    rfl
theorem look_vK (S : List (Int × Int)) (a : Int) : ∃ o, dlook (some (.dK (tabK S))) (I a) = some o ∧ o.getD (I 0) = I (getK S a) := by
  refine ⟨lookD (tabK S) (Sum.inl a), rfl, ?_⟩
  unfold lookD tabK
  induction S with
  | nil => rfl
  | cons p S ih =>
    rw [List.map_cons, List.find?_cons]
    show (Option.map _ (match decide ((Sum.inl p.1 : Key) = Sum.inl a) with | true => _ | false => _)).getD _ = _
    rw [dec_key, getK]
    by_cases e : p.1 = a
    · rw [decide_eq_true e, if_pos e]
      rfl
    · rw [decide_eq_false e, if_neg e]
      exact ih
theorem keys_vK (S : List (Int × Int)) : (tabK S).map (fun kv => keyPD kv.1) = ((S.map (·.1)).map PyData.int).map DV.d := by
  unfold tabK
  rw [List.map_map, List.map_map, List.map_map]
  rfl
theorem maxOr_ge {d : Int} {l : List Int} {x : Int} (h : x ∈ l) : x ≤ maxOr d l := by
  have key : ∀ (l : List Int) (m : Int), m ≤ l.foldl max m ∧ ∀ x ∈ l, x ≤ l.foldl max m := by
    intro l
    induction l with
    | nil => exact fun m => ⟨Int.le_refl _, fun x h => nomatch h⟩
    | cons y l ih =>
      intro m
      rw [List.foldl_cons]
      obtain ⟨h1, h2⟩ := ih (max m y)
      refine ⟨by omega, fun x hx => ?_⟩
      rcases List.mem_cons.mp hx with rfl | hx
      · omega
      · exact h2 x hx
  cases l with
  | nil => cases h
  | cons y l =>
    obtain ⟨h1, h2⟩ := key l y
    rcases List.mem_cons.mp h with rfl | h
    · exact h1
    · exact h2 x h
theorem maxOr_le {d b : Int} {l : List Int} (hd : d ≤ b) (h : ∀ x ∈ l, x ≤ b) : maxOr d l ≤ b := by
  cases l with
  | nil => exact hd
  | cons y l =>
    have key : ∀ (l : List Int) (m : Int), m ≤ b → (∀ x ∈ l, x ≤ b) → l.foldl max m ≤ b := by
      intro l
      induction l with
      | nil => exact fun m hm _ => hm
      | cons y l ih => exact fun m hm h => ih _ (by have := h y List.mem_cons_self; omega) fun x hx => h x (List.mem_cons_of_mem _ hx)
    exact key l y (h y List.mem_cons_self) fun x hx => h x (List.mem_cons_of_mem _ hx)
theorem up_up {st : Sto} {a : Addr} {x y : MO} : up (up st a x) a y = up st a y := funext fun b => by
  by_cases h : b = a
  · rw [h, up_same, up_same]
  · rw [up_ne h, up_ne h, up_ne h]
theorem up_id {st : Sto} {a : Addr} {x : MO} (h : st a = some x) : up st a x = st := funext fun b => by
  by_cases e : b = a
  · rw [e, up_same, h]
  · rw [up_ne e]
theorem sum_le {n : Nat} {w : Int} {a : List Int} (h : Mon n w a) : a.sum ≤ n * w := by
  obtain ⟨hl, h⟩ := h
  induction a generalizing n with
  | nil => subst hl; simp
  | cons x a ih =>
    cases n with
    | zero => cases hl
    | succ n =>
      have h1 := (h x List.mem_cons_self).2
      have h2 := ih (n := n) (by simpa using hl) fun y hy => h y (List.mem_cons_of_mem _ hy)
      rw [List.sum_cons]
      have : ((n + 1 : Nat) : Int) * w = n * w + w := by rw [Int.natCast_add, Int.add_mul]; simp
      omega
end UC
end
section
set_option Elab.async false
set_option linter.all false
set_option maxRecDepth 100000
set_option maxHeartbeats 1000000
open PySem L2 DL RD UC
local macro_rules | `(tactic| walk_at "E") => `(tactic| (try simp only [qAsg, qRet, qDrop, qIfS, qTest, qAndT, qOrT, qNotT, qAndV, qOrV, qNotV, qIf, qOp, qUn, qChain, onB, qv, qc, qgN, qgT, qgCons, qgNil, qCons, qNil, qTup, qLst, qPar, qPar3, qAug, qCB, qCall, qLen, qTupleC, qListC, qMax2, qMin2, qIntC, qSum, qAny, qAll, qIsi, tyName, qAdd, qSub, qMul, qFdiv, qMod, qPow, qI2, qCmpI, qEq, qNe, qLt, qLe, qGt, qGe, qNeg, qIx, qDGet, qDIn, qDPut, qSl, qPart, qNoPart, qNext, qFor, qiSeq, qiRng1, qiRng2, qiZip, qiEnum, qLc, seqSrc, lsrc, titems, litems, sitems, fz, newL, List.getElem?_cons_zero, List.getElem?_cons_succ, List.set_cons_zero, List.set_cons_succ, if_true, if_false, Bool.false_eq_true, ite_true, ite_false, up_same, reduceIte, decide_true, decide_false, true_and, and_true]))
local macro_rules | `(tactic| walk_at "D") => `(tactic| (try simp only [qAsg, qRet, qDrop, qIfS, qTest, qAndT, qOrT, qNotT, qAndV, qOrV, qNotV, qIf, qOp, qUn, qChain, onB, qv, qc, qgN, qgT, qgCons, qgNil, qCons, qNil, qTup, qLst, qPar, qPar3, qAug, qCB, qCall, qLen, qTupleC, qListC, qMax2, qMin2, qIntC, qSum, qAny, qAll, qIsi, tyName, qAdd, qSub, qMul, qFdiv, qMod, qPow, qI2, qCmpI, qEq, qNe, qLt, qLe, qGt, qGe, qNeg, qIx, qDGet, qDIn, qDPut, qSl, qPart, qNoPart, qNext, qFor, qiSeq, qiRng1, qiRng2, qiZip, qiEnum, qLc, seqSrc, lsrc, titems, litems, sitems, fz, newL, List.getElem?_cons_zero, List.getElem?_cons_succ, List.set_cons_zero, List.set_cons_succ, if_true, if_false, Bool.false_eq_true, ite_true, ite_false, up_same, reduceIte, decide_true, decide_false, true_and, and_true, eqv_int, eqv_bool, eqv_TI, eqv_LI, eqv_TT, eqv_LT, eqv_nilL, eqv_nilT, shaped_TI, shaped_LI, shaped_TT, shaped_LT, shaped_int, shaped_bool, shaped_nilL, shaped_nilT, dints_map2, dbools_map2, datas_map, mkT_map, mkT_0, mkT_1, mkT_2, mkT_3, List.length_map, List.length_cons, List.length_nil, List.length_append, List.map_cons, List.map_nil, wipeD, Bool.not_true, Bool.not_false, eq_self, not_true_eq_false, not_false_eq_true, kitB_tt, kitB_ll, kitB_dd, kitB_bb, kitB_ib, kitB_ii, kitB_ss, kitB_tl, kitB_lt, Function.comp, datas, Option.map_some, List.cons_append, List.nil_append, CPow, le_size4, Int.toNat_natCast, rngD0, I_eq, Bo_eq, BS.qSortB, in_IT, in_IL, in_TT, in_TL, qNotN, qIsN, qSortD, qListRg, qDispT, keyX_TI, qGet, qiItems, qLockE, qLockS, qPop, qMaxDf, qLc2, qMax1, qMin1, qAppend, qExtend, tints_TI, dv_TI, Option.bind_some, qRetN, atI_0, atI_1, atI_2, mk_appT, mk_snocI, idl, rep_I, Option.map_none, eqv_idl, shaped_idl, Bool.and_self, Bool.true_and, Bool.and_true]))
local macro_rules | `(tactic| walk_at "F") => `(tactic| (try simp only [qAsg, qRet, qDrop, qIfS, qTest, qAndT, qOrT, qNotT, qAndV, qOrV, qNotV, qIf, qOp, qUn, qChain, onB, qv, qc, qgN, qgT, qgCons, qgNil, qCons, qNil, qTup, qLst, qPar, qPar3, qAug, qCB, qCall, qLen, qTupleC, qListC, qMax2, qMin2, qIntC, qSum, qAny, qAll, qIsi, tyName, qAdd, qSub, qMul, qFdiv, qMod, qPow, qI2, qCmpI, qEq, qNe, qLt, qLe, qGt, qGe, qNeg, qIx, qDGet, qDIn, qDPut, qSl, qPart, qNoPart, qNext, qFor, qiRng1, qiRng2, qiZip, qiEnum, qLc, fz, newL, List.getElem?_cons_zero, List.getElem?_cons_succ, List.set_cons_zero, List.set_cons_succ, if_true, if_false, Bool.false_eq_true, ite_true, ite_false, up_same, reduceIte, decide_true, decide_false, true_and, and_true, eqv_int, eqv_bool, eqv_TI, eqv_LI, eqv_TT, eqv_LT, eqv_nilL, eqv_nilT, shaped_TI, shaped_LI, shaped_TT, shaped_LT, shaped_int, shaped_bool, shaped_nilL, shaped_nilT, dints_map2, dbools_map2, datas_map, mkT_map, mkT_0, mkT_1, mkT_2, mkT_3, List.length_map, List.length_cons, List.length_nil, List.length_append, List.map_cons, List.map_nil, wipeD, Bool.not_true, Bool.not_false, eq_self, not_true_eq_false, not_false_eq_true, kitB_tt, kitB_ll, kitB_dd, kitB_bb, kitB_ib, kitB_ii, kitB_ss, kitB_tl, kitB_lt, Function.comp, datas, Option.map_some, List.cons_append, List.nil_append, CPow, le_size4, Int.toNat_natCast, rngD0, I_eq, Bo_eq, BS.qSortB, in_IT, in_IL, in_TT, in_TL, qNotN, qIsN, qSortD, qListRg, qDispT, keyX_TI, qGet, qiItems, qLockE, qLockS, qPop, qMaxDf, qLc2, qMax1, qMin1, qAppend, qExtend, tints_TI, dv_TI, Option.bind_some, qRetN, atI_0, atI_1, atI_2, mk_appT, mk_snocI, idl, rep_I, Option.map_none, eqv_idl, shaped_idl, Bool.and_self, Bool.true_and, Bool.and_true]))
namespace UC
open PySem L2 DL RD
theorem mon_cut {n : Nat} {w : Int} {a f : List Int} (ha : Mon n w a) (hf : NN n f) : Mon n w (cutL a f) := by
  refine ⟨len_zw ha.1 hf.1, fun x hx => ?_⟩
  unfold cutL at hx
  rw [← range_zw ha.1 hf.1] at hx
  obtain ⟨j, hj, rfl⟩ := List.mem_map.mp hx
  rw [List.mem_range] at hj
  have h1 := ha.2 _ (gd_mem (j := j) (by rw [ha.1]; exact hj))
  have h2 := hf.at hj
  omega
abbrev cutS (A : List (List Int)) (f : List Int) : List (List Int) := A.map fun a => cutL a f
def sp_colon_by : SpD := fun xs st Q => ∃ (A : List (List Int)) (f : List Int) (n : Nat), xs = [.d (idl n A), .d (TI f)] ∧ 1 ≤ n ∧ n ≤ 1000 ∧ Idl n 60 60 A ∧ NN n f ∧ Q (.d (idl n (minL (cutS A f)))) st
theorem len_colon_by : ∀ xs st Q, sp_colon_by xs st Q → xs.length = 2 := by rintro xs st Q ⟨a, b, n, rfl, _⟩; rfl
theorem ok_cut {A : List (List Int)} {f : List Int} {n : Nat} (h1 : 1 ≤ n) (h2 : n ≤ 1000) (hA : Idl n 60 60 A) (hf : NN n f) : OkS n 60 (cutS A f) ∧ (minL (cutS A f)).length ≤ 60 := by
  have := hA.2.1
  refine ⟨⟨h1, h2, by rw [List.length_map]; omega, fun t ht => ?_⟩, Nat.le_trans (min_len _) (by rw [List.length_map]; exact this)⟩
  obtain ⟨a, ha, rfl⟩ := List.mem_map.mp ht
  exact mon_cut (hA.2.2 a ha) hf
theorem sem_colon_by : ∀ xs st Q, sp_colon_by xs st Q → rd_colon_by sp_cut sp_made { nx := fun _ st' => Fg Q (.d .none) st', rt := Fg Q } (startD 3 xs) st := by
  rintro xs st Q ⟨A, f, n, rfl, h1, h2, hA, hf, K⟩
  have e0 : startD 3 [.d (idl n A), .d (TI f)] = [some (.d (idl n A)), some (.d (TI f)), none] := rfl
  rw [e0]
  unfold rd_colon_by
  obtain ⟨o, c⟩ := ok_cut h1 h2 hA hf
  have lA := hA.len
  walk_at "D"
  refine ⟨size_of hA.2.1 (by omega), ?_⟩
  rw [List.map_map]
  refine comp_mapT _ (fun a => .d (TI (cutL a f))) trivial _ _ ?_ ?_
  · intro a ha Q1 h
    walk_at "D"
    exact ⟨a, f, rfl, by rw [lA a ha]; exact h2, h⟩
  · have e1 : [] ++ A.map (fun a => DV.d (TI (cutL a f))) = ((cutS A f).map TI).map .d := by
      rw [List.nil_append, List.map_map, List.map_map]
      rfl
    rw [e1]
    walk_at "D"
    exact ⟨_, cutS A f, n, rfl, rfl, o, c, fg_ret K⟩
end UC
end
section
set_option Elab.async false
set_option linter.all false
set_option maxRecDepth 100000
set_option maxHeartbeats 1000000
namespace UC
open PySem L2 DL RD
theorem left_chi (n : Nat) (G : List (List Int)) (d : Nat) : (leftN n G d : Int) = ((degR n d).map (chiI G)).sum := by
  unfold leftN
  rw [← sum_ite]
  congr 1
  refine List.map_congr_left fun b _ => ?_
  unfold chiI
  cases inL G b <;> rfl
theorem sum_add2 {α : Type} (f g : α → Int) : ∀ l : List α, (l.map fun x => f x + g x).sum = (l.map f).sum + (l.map g).sum
  | [] => rfl
  | x :: l => by
    rw [List.map_cons, List.map_cons, List.map_cons, List.sum_cons, List.sum_cons, List.sum_cons, sum_add2 f g l]
    omega
theorem chi_two {n : Nat} {A B : List (List Int)} {b : List Int} (hA : NNs n A) (hB : NNs n B) (hb : NN n b) : chiI (minL (A ++ B)) b + chiI (minL (pairL lcmL A B)) b = chiI A b + chiI B b := by
  unfold chiI
  rw [in_app hA.len hB.len hb.1, in_meet hA.len hB.len hb.1]
  cases inL A b <;> cases inL B b <;> rfl
theorem left_two {n : Nat} {A B : List (List Int)} (hA : NNs n A) (hB : NNs n B) (d : Nat) : leftN n (minL (A ++ B)) d + leftN n (minL (pairL lcmL A B)) d = leftN n A d + leftN n B d := by
  have : (leftN n (minL (A ++ B)) d : Int) + leftN n (minL (pairL lcmL A B)) d = leftN n A d + leftN n B d := by
    rw [left_chi, left_chi, left_chi, left_chi, ← sum_add2, ← sum_add2]
    congr 1
    exact List.map_congr_left fun b hb => chi_two hA hB (mem_degR.mp hb).1
  omega
end UC
end
section
set_option Elab.async false
set_option linter.all false
set_option maxRecDepth 100000
set_option maxHeartbeats 1000000
namespace UC
open PySem L2 DL RD
def holdsB (p m : List Int) : Bool := (p.zip m).any fun z => decide (0 < z.1) && decide (z.1 ≤ z.2)
theorem holds_iff {p m : List Int} {n : Nat} (hp : p.length = n) (hm : m.length = n) : holdsB p m = true ↔ ∃ j < n, 0 < gd p j ∧ gd p j ≤ gd m j := by
  unfold holdsB
  rw [zip_range hp hm, List.any_eq_true]
  constructor
  · rintro ⟨x, hx, h⟩
    obtain ⟨j, hj, rfl⟩ := List.mem_map.mp hx
    simp only [Bool.and_eq_true, decide_eq_true_eq] at h
    exact ⟨j, List.mem_range.mp hj, h⟩
  · rintro ⟨j, hj, h1, h2⟩
    exact ⟨_, List.mem_map.mpr ⟨j, List.mem_range.mpr hj, rfl⟩, by simp only [Bool.and_eq_true, decide_eq_true_eq]; exact ⟨h1, h2⟩⟩
/-- the power of one variable -/
def powL (n : Nat) (i : Nat) (e : Int) : List Int := (List.range n).map fun k => if k = i then e else 0
theorem len_powL {n i : Nat} {e : Int} : (powL n i e).length = n := by unfold powL; rw [List.length_map, List.length_range]
theorem gd_powL {n i k : Nat} {e : Int} (hk : k < n) : gd (powL n i e) k = if k = i then e else 0 := by
  rw [← gd_eq (by rw [len_powL]; exact hk)]
  unfold powL
  rw [List.getElem_map, List.getElem_range]
def powersL (p : List Int) : List (List Int) := (p.zipIdx.filter fun z => decide (0 < z.1)).map fun z => powL p.length z.2 z.1
theorem mem_powersL {p x : List Int} {n : Nat} (hp : p.length = n) : x ∈ powersL p ↔ ∃ j < n, 0 < gd p j ∧ x = powL n j (gd p j) := by
  unfold powersL
  rw [zipIdx_range, hp]
  simp only [List.mem_map, List.mem_filter, List.mem_range, decide_eq_true_eq]
  constructor
  · rintro ⟨z, ⟨⟨j, hj, rfl⟩, h⟩, rfl⟩
    exact ⟨j, hj, h, rfl⟩
  · rintro ⟨j, hj, h, rfl⟩
    exact ⟨_, ⟨⟨j, hj, rfl⟩, h⟩, rfl⟩
/-- the first one's ideal contains the other's -/
def aroundB (p q : List Int) : Bool := (powersL q).all fun x => holdsB p x
theorem around_iff {p q : List Int} {n : Nat} (hp : p.length = n) (hq : q.length = n) : aroundB p q = true ↔ ∀ j < n, 0 < gd q j → 0 < gd p j ∧ gd p j ≤ gd q j := by
  unfold aroundB
  rw [List.all_eq_true]
  constructor
  · intro h j hj h0
    obtain ⟨i, hi, h1, h2⟩ := (holds_iff hp len_powL).mp (h _ ((mem_powersL hq).mpr ⟨j, hj, h0, rfl⟩))
    rw [gd_powL hi] at h2
    by_cases e : i = j
    · subst e
      rw [if_pos rfl] at h2
      exact ⟨h1, h2⟩
    · rw [if_neg e] at h2
      omega
  · intro h x hx
    obtain ⟨j, hj, h0, rfl⟩ := (mem_powersL hq).mp hx
    obtain ⟨h1, h2⟩ := h j hj h0
    exact (holds_iff hp len_powL).mpr ⟨j, hj, h1, by rw [gd_powL hj, if_pos rfl]; exact h2⟩
theorem around_trans {p q r : List Int} {n : Nat} (hp : p.length = n) (hq : q.length = n) (hr : r.length = n) (h1 : aroundB p q = true) (h2 : aroundB q r = true) : aroundB p r = true :=
  (around_iff hp hr).mpr fun j hj h => by
    obtain ⟨a, b⟩ := (around_iff hq hr).mp h2 j hj h
    obtain ⟨c, d⟩ := (around_iff hp hq).mp h1 j hj a
    exact ⟨c, by omega⟩
theorem around_anti {p q : List Int} {n : Nat} (hp : NN n p) (hq : NN n q) (h1 : aroundB p q = true) (h2 : aroundB q p = true) : p = q :=
  (gd_ext hp.1 hq.1).mpr fun j hj => by
    have a := (around_iff hp.1 hq.1).mp h1 j hj
    have b := (around_iff hq.1 hp.1).mp h2 j hj
    have := hp.at hj
    have := hq.at hj
    by_cases c : 0 < gd q j
    · have := (a c)
      have := b this.1
      omega
    · by_cases d : 0 < gd p j
      · have := b d
        omega
      · omega
/-- what the components of the ideal of some generators are -/
structure Comp (n : Nat) (G L : List (List Int)) : Prop where
  nn : NNs n L
  up : ∀ p ∈ L, ∀ g ∈ G, holdsB p g = true
  all : ∀ q, NN n q → (∀ g ∈ G, holdsB q g = true) → ∃ p ∈ L, aroundB q p = true
  anti : ∀ p ∈ L, ∀ q ∈ L, aroundB p q = true → p = q
theorem Comp.same {n : Nat} {G L M : List (List Int)} (a : Comp n G L) (b : Comp n G M) : ∀ x, x ∈ L ↔ x ∈ M := by
  have key : ∀ {L M : List (List Int)}, Comp n G L → Comp n G M → ∀ x ∈ L, x ∈ M := fun {L M} a b x hx => by
    obtain ⟨p, hp, h1⟩ := b.all x (a.nn x hx) (a.up x hx)
    obtain ⟨q, hq, h2⟩ := a.all p (b.nn p hp) (b.up p hp)
    have nx := a.nn x hx
    have np := b.nn p hp
    have e := a.anti x hx q hq (around_trans nx.1 np.1 (a.nn q hq).1 h1 h2)
    subst e
    rw [around_anti nx np h1 h2]
    exact hp
  exact fun x => ⟨key a b x, key b a x⟩
end UC
end
section
set_option Elab.async false
set_option linter.all false
set_option maxRecDepth 100000
set_option maxHeartbeats 1000000
open PySem L2 DL RD UC
local macro_rules | `(tactic| walk_at "E") => `(tactic| (try simp only [qAsg, qRet, qDrop, qIfS, qTest, qAndT, qOrT, qNotT, qAndV, qOrV, qNotV, qIf, qOp, qUn, qChain, onB, qv, qc, qgN, qgT, qgCons, qgNil, qCons, qNil, qTup, qLst, qPar, qPar3, qAug, qCB, qCall, qLen, qTupleC, qListC, qMax2, qMin2, qIntC, qSum, qAny, qAll, qIsi, tyName, qAdd, qSub, qMul, qFdiv, qMod, qPow, qI2, qCmpI, qEq, qNe, qLt, qLe, qGt, qGe, qNeg, qIx, qDGet, qDIn, qDPut, qSl, qPart, qNoPart, qNext, qFor, qiSeq, qiRng1, qiRng2, qiZip, qiEnum, qLc, seqSrc, lsrc, titems, litems, sitems, fz, newL, List.getElem?_cons_zero, List.getElem?_cons_succ, List.set_cons_zero, List.set_cons_succ, if_true, if_false, Bool.false_eq_true, ite_true, ite_false, up_same, reduceIte, decide_true, decide_false, true_and, and_true]))
local macro_rules | `(tactic| walk_at "D") => `(tactic| (try simp only [qAsg, qRet, qDrop, qIfS, qTest, qAndT, qOrT, qNotT, qAndV, qOrV, qNotV, qIf, qOp, qUn, qChain, onB, qv, qc, qgN, qgT, qgCons, qgNil, qCons, qNil, qTup, qLst, qPar, qPar3, qAug, qCB, qCall, qLen, qTupleC, qListC, qMax2, qMin2, qIntC, qSum, qAny, qAll, qIsi, tyName, qAdd, qSub, qMul, qFdiv, qMod, qPow, qI2, qCmpI, qEq, qNe, qLt, qLe, qGt, qGe, qNeg, qIx, qDGet, qDIn, qDPut, qSl, qPart, qNoPart, qNext, qFor, qiSeq, qiRng1, qiRng2, qiZip, qiEnum, qLc, seqSrc, lsrc, titems, litems, sitems, fz, newL, List.getElem?_cons_zero, List.getElem?_cons_succ, List.set_cons_zero, List.set_cons_succ, if_true, if_false, Bool.false_eq_true, ite_true, ite_false, up_same, reduceIte, decide_true, decide_false, true_and, and_true, eqv_int, eqv_bool, eqv_TI, eqv_LI, eqv_TT, eqv_LT, eqv_nilL, eqv_nilT, shaped_TI, shaped_LI, shaped_TT, shaped_LT, shaped_int, shaped_bool, shaped_nilL, shaped_nilT, dints_map2, dbools_map2, datas_map, mkT_map, mkT_0, mkT_1, mkT_2, mkT_3, List.length_map, List.length_cons, List.length_nil, List.length_append, List.map_cons, List.map_nil, wipeD, Bool.not_true, Bool.not_false, eq_self, not_true_eq_false, not_false_eq_true, kitB_tt, kitB_ll, kitB_dd, kitB_bb, kitB_ib, kitB_ii, kitB_ss, kitB_tl, kitB_lt, Function.comp, datas, Option.map_some, List.cons_append, List.nil_append, CPow, le_size4, Int.toNat_natCast, rngD0, I_eq, Bo_eq, BS.qSortB, in_IT, in_IL, in_TT, in_TL, qNotN, qIsN, qSortD, qListRg, qDispT, keyX_TI, qGet, qiItems, qLockE, qLockS, qPop, qMaxDf, qLc2, qMax1, qMin1, qAppend, qExtend, tints_TI, dv_TI, Option.bind_some, qRetN, atI_0, atI_1, atI_2, mk_appT, mk_snocI, idl, rep_I, Option.map_none, eqv_idl, shaped_idl, Bool.and_self, Bool.true_and, Bool.and_true]))
local macro_rules | `(tactic| walk_at "F") => `(tactic| (try simp only [qAsg, qRet, qDrop, qIfS, qTest, qAndT, qOrT, qNotT, qAndV, qOrV, qNotV, qIf, qOp, qUn, qChain, onB, qv, qc, qgN, qgT, qgCons, qgNil, qCons, qNil, qTup, qLst, qPar, qPar3, qAug, qCB, qCall, qLen, qTupleC, qListC, qMax2, qMin2, qIntC, qSum, qAny, qAll, qIsi, tyName, qAdd, qSub, qMul, qFdiv, qMod, qPow, qI2, qCmpI, qEq, qNe, qLt, qLe, qGt, qGe, qNeg, qIx, qDGet, qDIn, qDPut, qSl, qPart, qNoPart, qNext, qFor, qiRng1, qiRng2, qiZip, qiEnum, qLc, fz, newL, List.getElem?_cons_zero, List.getElem?_cons_succ, List.set_cons_zero, List.set_cons_succ, if_true, if_false, Bool.false_eq_true, ite_true, ite_false, up_same, reduceIte, decide_true, decide_false, true_and, and_true, eqv_int, eqv_bool, eqv_TI, eqv_LI, eqv_TT, eqv_LT, eqv_nilL, eqv_nilT, shaped_TI, shaped_LI, shaped_TT, shaped_LT, shaped_int, shaped_bool, shaped_nilL, shaped_nilT, dints_map2, dbools_map2, datas_map, mkT_map, mkT_0, mkT_1, mkT_2, mkT_3, List.length_map, List.length_cons, List.length_nil, List.length_append, List.map_cons, List.map_nil, wipeD, Bool.not_true, Bool.not_false, eq_self, not_true_eq_false, not_false_eq_true, kitB_tt, kitB_ll, kitB_dd, kitB_bb, kitB_ib, kitB_ii, kitB_ss, kitB_tl, kitB_lt, Function.comp, datas, Option.map_some, List.cons_append, List.nil_append, CPow, le_size4, Int.toNat_natCast, rngD0, I_eq, Bo_eq, BS.qSortB, in_IT, in_IL, in_TT, in_TL, qNotN, qIsN, qSortD, qListRg, qDispT, keyX_TI, qGet, qiItems, qLockE, qLockS, qPop, qMaxDf, qLc2, qMax1, qMin1, qAppend, qExtend, tints_TI, dv_TI, Option.bind_some, qRetN, atI_0, atI_1, atI_2, mk_appT, mk_snocI, idl, rep_I, Option.map_none, eqv_idl, shaped_idl, Bool.and_self, Bool.true_and, Bool.and_true]))
namespace UC
open PySem L2 DL RD
def sp_want_small : SpD := fun xs st Q => ∃ (A : List (List Int)) (n : Nat), xs = [.d (idl n A)] ∧ n ≤ 8 ∧ A.length ≤ 10 ∧ Q (.d .none) st
theorem len_want_small : ∀ xs st Q, sp_want_small xs st Q → xs.length = 1 := by rintro xs st Q ⟨a, n, rfl, _⟩; rfl
theorem sem_want_small : ∀ xs st Q, sp_want_small xs st Q → rd_want_small { nx := fun _ st' => Fg Q (.d .none) st', rt := Fg Q } (startD 1 xs) st := by
  rintro xs st Q ⟨A, n, rfl, h1, h2, K⟩
  have e0 : startD 1 [.d (idl n A)] = [some (.d (idl n A))] := rfl
  rw [e0]
  unfold rd_want_small
  have g1 : ¬ (8 : Int) < n := by omega
  have g2 : ¬ (10 : Int) < A.length := by omega
  refine seq fun N hN => ?_
  walk_at "D"
  simp only [g1, decide_false]
  walk_at "D"
  refine hN _ _ ?_
  walk_at "D"
  simp only [g2, decide_false]
  walk_at "D"
  exact fg_ret K
end UC
end
section
set_option Elab.async false
set_option linter.all false
set_option maxRecDepth 100000
set_option maxHeartbeats 1000000
open PySem L2 DL RD UC
local macro_rules | `(tactic| walk_at "E") => `(tactic| (try simp only [qAsg, qRet, qDrop, qIfS, qTest, qAndT, qOrT, qNotT, qAndV, qOrV, qNotV, qIf, qOp, qUn, qChain, onB, qv, qc, qgN, qgT, qgCons, qgNil, qCons, qNil, qTup, qLst, qPar, qPar3, qAug, qCB, qCall, qLen, qTupleC, qListC, qMax2, qMin2, qIntC, qSum, qAny, qAll, qIsi, tyName, qAdd, qSub, qMul, qFdiv, qMod, qPow, qI2, qCmpI, qEq, qNe, qLt, qLe, qGt, qGe, qNeg, qIx, qDGet, qDIn, qDPut, qSl, qPart, qNoPart, qNext, qFor, qiSeq, qiRng1, qiRng2, qiZip, qiEnum, qLc, seqSrc, lsrc, titems, litems, sitems, fz, newL, List.getElem?_cons_zero, List.getElem?_cons_succ, List.set_cons_zero, List.set_cons_succ, if_true, if_false, Bool.false_eq_true, ite_true, ite_false, up_same, reduceIte, decide_true, decide_false, true_and, and_true]))
local macro_rules | `(tactic| walk_at "D") => `(tactic| (try simp only [qAsg, qRet, qDrop, qIfS, qTest, qAndT, qOrT, qNotT, qAndV, qOrV, qNotV, qIf, qOp, qUn, qChain, onB, qv, qc, qgN, qgT, qgCons, qgNil, qCons, qNil, qTup, qLst, qPar, qPar3, qAug, qCB, qCall, qLen, qTupleC, qListC, qMax2, qMin2, qIntC, qSum, qAny, qAll, qIsi, tyName, qAdd, qSub, qMul, qFdiv, qMod, qPow, qI2, qCmpI, qEq, qNe, qLt, qLe, qGt, qGe, qNeg, qIx, qDGet, qDIn, qDPut, qSl, qPart, qNoPart, qNext, qFor, qiSeq, qiRng1, qiRng2, qiZip, qiEnum, qLc, seqSrc, lsrc, titems, litems, sitems, fz, newL, List.getElem?_cons_zero, List.getElem?_cons_succ, List.set_cons_zero, List.set_cons_succ, if_true, if_false, Bool.false_eq_true, ite_true, ite_false, up_same, reduceIte, decide_true, decide_false, true_and, and_true, eqv_int, eqv_bool, eqv_TI, eqv_LI, eqv_TT, eqv_LT, eqv_nilL, eqv_nilT, shaped_TI, shaped_LI, shaped_TT, shaped_LT, shaped_int, shaped_bool, shaped_nilL, shaped_nilT, dints_map2, dbools_map2, datas_map, mkT_map, mkT_0, mkT_1, mkT_2, mkT_3, List.length_map, List.length_cons, List.length_nil, List.length_append, List.map_cons, List.map_nil, wipeD, Bool.not_true, Bool.not_false, eq_self, not_true_eq_false, not_false_eq_true, kitB_tt, kitB_ll, kitB_dd, kitB_bb, kitB_ib, kitB_ii, kitB_ss, kitB_tl, kitB_lt, Function.comp, datas, Option.map_some, List.cons_append, List.nil_append, CPow, le_size4, Int.toNat_natCast, rngD0, I_eq, Bo_eq, BS.qSortB, in_IT, in_IL, in_TT, in_TL, qNotN, qIsN, qSortD, qListRg, qDispT, keyX_TI, qGet, qiItems, qLockE, qLockS, qPop, qMaxDf, qLc2, qMax1, qMin1, qAppend, qExtend, tints_TI, dv_TI, Option.bind_some, qRetN, atI_0, atI_1, atI_2, mk_appT, mk_snocI, idl, rep_I, Option.map_none, eqv_idl, shaped_idl, Bool.and_self, Bool.true_and, Bool.and_true]))
local macro_rules | `(tactic| walk_at "F") => `(tactic| (try simp only [qAsg, qRet, qDrop, qIfS, qTest, qAndT, qOrT, qNotT, qAndV, qOrV, qNotV, qIf, qOp, qUn, qChain, onB, qv, qc, qgN, qgT, qgCons, qgNil, qCons, qNil, qTup, qLst, qPar, qPar3, qAug, qCB, qCall, qLen, qTupleC, qListC, qMax2, qMin2, qIntC, qSum, qAny, qAll, qIsi, tyName, qAdd, qSub, qMul, qFdiv, qMod, qPow, qI2, qCmpI, qEq, qNe, qLt, qLe, qGt, qGe, qNeg, qIx, qDGet, qDIn, qDPut, qSl, qPart, qNoPart, qNext, qFor, qiRng1, qiRng2, qiZip, qiEnum, qLc, fz, newL, List.getElem?_cons_zero, List.getElem?_cons_succ, List.set_cons_zero, List.set_cons_succ, if_true, if_false, Bool.false_eq_true, ite_true, ite_false, up_same, reduceIte, decide_true, decide_false, true_and, and_true, eqv_int, eqv_bool, eqv_TI, eqv_LI, eqv_TT, eqv_LT, eqv_nilL, eqv_nilT, shaped_TI, shaped_LI, shaped_TT, shaped_LT, shaped_int, shaped_bool, shaped_nilL, shaped_nilT, dints_map2, dbools_map2, datas_map, mkT_map, mkT_0, mkT_1, mkT_2, mkT_3, List.length_map, List.length_cons, List.length_nil, List.length_append, List.map_cons, List.map_nil, wipeD, Bool.not_true, Bool.not_false, eq_self, not_true_eq_false, not_false_eq_true, kitB_tt, kitB_ll, kitB_dd, kitB_bb, kitB_ib, kitB_ii, kitB_ss, kitB_tl, kitB_lt, Function.comp, datas, Option.map_some, List.cons_append, List.nil_append, CPow, le_size4, Int.toNat_natCast, rngD0, I_eq, Bo_eq, BS.qSortB, in_IT, in_IL, in_TT, in_TL, qNotN, qIsN, qSortD, qListRg, qDispT, keyX_TI, qGet, qiItems, qLockE, qLockS, qPop, qMaxDf, qLc2, qMax1, qMin1, qAppend, qExtend, tints_TI, dv_TI, Option.bind_some, qRetN, atI_0, atI_1, atI_2, mk_appT, mk_snocI, idl, rep_I, Option.map_none, eqv_idl, shaped_idl, Bool.and_self, Bool.true_and, Bool.and_true]))
namespace UC
open PySem L2 DL RD
theorem leD_lex (a b : List Int) : leD (TI a) (TI b) = !lexL b a := by
  show (!PySem.W.dataLt (TI b) (TI a)) = _
  rw [BS.data_lexL]
theorem alike_TIs (L : List (List Int)) : PySem.W.AllAlike (L.map TI) := PySem.W.AllAlike.of fun a b => BS.alike_ints2 a b
theorem sortX_TIs (L : List (List Int)) : BS.SortX (L.map TI) := .inr fun d hd => by
  obtain ⟨t, ht, rfl⟩ := List.mem_map.mp hd
  exact ⟨_, rfl⟩
theorem depth_TIs {L : List (List Int)} : ∀ d ∈ L.map TI, d.depth ≤ 16 := fun d hd => by
  obtain ⟨t, ht, rfl⟩ := List.mem_map.mp hd
  have : (TI t).depth ≤ 1 := (sh_TI (n := 0)).2
  omega
theorem lex_le_tr (x y z : List Int) (h1 : (!lexL y x) = true) (h2 : (!lexL z y) = true) : (!lexL z x) = true := by
  have a := BS.le_tr (0, x) (0, y) (0, z)
  simp only [BS.le_lexL] at a
  exact a h1 h2
theorem lex_le_tot (x y : List Int) : ((!lexL y x) || !lexL x y) = true := by
  have a := BS.le_tot (0, x) (0, y)
  simp only [BS.le_lexL] at a
  exact a
theorem sort_TIs (L : List (List Int)) : (L.map TI).mergeSort leD = (L.mergeSort fun a b => !lexL b a).map TI :=
  (List.map_mergeSort (f := TI) (s := leD) fun a _ b _ => (leD_lex a b).symm).symm
theorem sort_nodup {L : List (List Int)} (h : L.Nodup) : (L.map TI).mergeSort leD = (sortU L).map TI := by
  rw [sort_TIs]
  congr 1
  refine ris_eq ?_ (ris_sortU L) fun x => ?_
  · have nd : (L.mergeSort fun a b => !lexL b a).Nodup := (List.mergeSort_perm _ _).nodup_iff.mpr h
    have pw := List.pairwise_mergeSort lex_le_tr lex_le_tot L
    refine List.Pairwise.imp (fun {a b} hab => ?_) (List.Pairwise.and nd pw)
    rcases lexL_tri a b with e | e | e
    · exact e
    · exact absurd e hab.1
    · rw [e] at hab; exact absurd hab.2 (by decide)
  · rw [mem_sortU, (List.mergeSort_perm _ _).mem_iff]
end UC
end
section
set_option Elab.async false
set_option linter.all false
set_option maxRecDepth 100000
set_option maxHeartbeats 1000000
open PySem L2 DL RD UC
local macro_rules | `(tactic| walk_at "E") => `(tactic| (try simp only [qAsg, qRet, qDrop, qIfS, qTest, qAndT, qOrT, qNotT, qAndV, qOrV, qNotV, qIf, qOp, qUn, qChain, onB, qv, qc, qgN, qgT, qgCons, qgNil, qCons, qNil, qTup, qLst, qPar, qPar3, qAug, qCB, qCall, qLen, qTupleC, qListC, qMax2, qMin2, qIntC, qSum, qAny, qAll, qIsi, tyName, qAdd, qSub, qMul, qFdiv, qMod, qPow, qI2, qCmpI, qEq, qNe, qLt, qLe, qGt, qGe, qNeg, qIx, qDGet, qDIn, qDPut, qSl, qPart, qNoPart, qNext, qFor, qiSeq, qiRng1, qiRng2, qiZip, qiEnum, qLc, seqSrc, lsrc, titems, litems, sitems, fz, newL, List.getElem?_cons_zero, List.getElem?_cons_succ, List.set_cons_zero, List.set_cons_succ, if_true, if_false, Bool.false_eq_true, ite_true, ite_false, up_same, reduceIte, decide_true, decide_false, true_and, and_true]))
local macro_rules | `(tactic| walk_at "D") => `(tactic| (try simp only [qAsg, qRet, qDrop, qIfS, qTest, qAndT, qOrT, qNotT, qAndV, qOrV, qNotV, qIf, qOp, qUn, qChain, onB, qv, qc, qgN, qgT, qgCons, qgNil, qCons, qNil, qTup, qLst, qPar, qPar3, qAug, qCB, qCall, qLen, qTupleC, qListC, qMax2, qMin2, qIntC, qSum, qAny, qAll, qIsi, tyName, qAdd, qSub, qMul, qFdiv, qMod, qPow, qI2, qCmpI, qEq, qNe, qLt, qLe, qGt, qGe, qNeg, qIx, qDGet, qDIn, qDPut, qSl, qPart, qNoPart, qNext, qFor, qiSeq, qiRng1, qiRng2, qiZip, qiEnum, qLc, seqSrc, lsrc, titems, litems, sitems, fz, newL, List.getElem?_cons_zero, List.getElem?_cons_succ, List.set_cons_zero, List.set_cons_succ, if_true, if_false, Bool.false_eq_true, ite_true, ite_false, up_same, reduceIte, decide_true, decide_false, true_and, and_true, eqv_int, eqv_bool, eqv_TI, eqv_LI, eqv_TT, eqv_LT, eqv_nilL, eqv_nilT, shaped_TI, shaped_LI, shaped_TT, shaped_LT, shaped_int, shaped_bool, shaped_nilL, shaped_nilT, dints_map2, dbools_map2, datas_map, mkT_map, mkT_0, mkT_1, mkT_2, mkT_3, List.length_map, List.length_cons, List.length_nil, List.length_append, List.map_cons, List.map_nil, wipeD, Bool.not_true, Bool.not_false, eq_self, not_true_eq_false, not_false_eq_true, kitB_tt, kitB_ll, kitB_dd, kitB_bb, kitB_ib, kitB_ii, kitB_ss, kitB_tl, kitB_lt, Function.comp, datas, Option.map_some, List.cons_append, List.nil_append, CPow, le_size4, Int.toNat_natCast, rngD0, I_eq, Bo_eq, BS.qSortB, in_IT, in_IL, in_TT, in_TL, qNotN, qIsN, qSortD, qListRg, qDispT, keyX_TI, qGet, qiItems, qLockE, qLockS, qPop, qMaxDf, qLc2, qMax1, qMin1, qAppend, qExtend, tints_TI, dv_TI, Option.bind_some, qRetN, atI_0, atI_1, atI_2, mk_appT, mk_snocI, idl, rep_I, Option.map_none, eqv_idl, shaped_idl, Bool.and_self, Bool.true_and, Bool.and_true]))
local macro_rules | `(tactic| walk_at "F") => `(tactic| (try simp only [qAsg, qRet, qDrop, qIfS, qTest, qAndT, qOrT, qNotT, qAndV, qOrV, qNotV, qIf, qOp, qUn, qChain, onB, qv, qc, qgN, qgT, qgCons, qgNil, qCons, qNil, qTup, qLst, qPar, qPar3, qAug, qCB, qCall, qLen, qTupleC, qListC, qMax2, qMin2, qIntC, qSum, qAny, qAll, qIsi, tyName, qAdd, qSub, qMul, qFdiv, qMod, qPow, qI2, qCmpI, qEq, qNe, qLt, qLe, qGt, qGe, qNeg, qIx, qDGet, qDIn, qDPut, qSl, qPart, qNoPart, qNext, qFor, qiRng1, qiRng2, qiZip, qiEnum, qLc, fz, newL, List.getElem?_cons_zero, List.getElem?_cons_succ, List.set_cons_zero, List.set_cons_succ, if_true, if_false, Bool.false_eq_true, ite_true, ite_false, up_same, reduceIte, decide_true, decide_false, true_and, and_true, eqv_int, eqv_bool, eqv_TI, eqv_LI, eqv_TT, eqv_LT, eqv_nilL, eqv_nilT, shaped_TI, shaped_LI, shaped_TT, shaped_LT, shaped_int, shaped_bool, shaped_nilL, shaped_nilT, dints_map2, dbools_map2, datas_map, mkT_map, mkT_0, mkT_1, mkT_2, mkT_3, List.length_map, List.length_cons, List.length_nil, List.length_append, List.map_cons, List.map_nil, wipeD, Bool.not_true, Bool.not_false, eq_self, not_true_eq_false, not_false_eq_true, kitB_tt, kitB_ll, kitB_dd, kitB_bb, kitB_ib, kitB_ii, kitB_ss, kitB_tl, kitB_lt, Function.comp, datas, Option.map_some, List.cons_append, List.nil_append, CPow, le_size4, Int.toNat_natCast, rngD0, I_eq, Bo_eq, BS.qSortB, in_IT, in_IL, in_TT, in_TL, qNotN, qIsN, qSortD, qListRg, qDispT, keyX_TI, qGet, qiItems, qLockE, qLockS, qPop, qMaxDf, qLc2, qMax1, qMin1, qAppend, qExtend, tints_TI, dv_TI, Option.bind_some, qRetN, atI_0, atI_1, atI_2, mk_appT, mk_snocI, idl, rep_I, Option.map_none, eqv_idl, shaped_idl, Bool.and_self, Bool.true_and, Bool.and_true]))
namespace UC
open PySem L2 DL RD
theorem nodup_boxL (tops : List Int) : (boxL tops).Nodup := by
  unfold boxL
  have key : ∀ (ts : List Int) (F : List (List Int)) (m : Nat), F.Nodup → (∀ a ∈ F, a.length = m) → (ts.foldl (fun F t => F.flatMap fun a => (List.range (t + 1).toNat).map fun (k : Nat) => a ++ [(k : Int)]) F).Nodup := by
    intro ts
    induction ts with
    | nil => exact fun F m h _ => h
    | cons t ts ih =>
      intro F m h hl
      refine ih _ (m + 1) ?_ fun x hx => ?_
      · refine List.pairwise_flatMap.mpr ⟨fun a ha => ?_, List.Pairwise.imp_of_mem (fun {a b} ha hb hne x hx y hy e => ?_) h⟩
        · refine List.pairwise_map.mpr (List.Pairwise.imp (fun {i j} hij e => hij ?_) List.nodup_range)
          have := List.append_cancel_left e
          have h2 : (i : Int) = (j : Int) := by simpa using this
          omega
        · obtain ⟨i, _, rfl⟩ := List.mem_map.mp hx
          obtain ⟨j, _, rfl⟩ := List.mem_map.mp hy
          exact hne (List.append_inj_left e ((hl a ha).trans (hl b hb).symm))
      · obtain ⟨a, ha, hx⟩ := List.mem_flatMap.mp hx
        obtain ⟨k, _, rfl⟩ := List.mem_map.mp hx
        rw [List.length_append, hl a ha]
        rfl
  exact key tops [[]] 0 (by simp) (by simp)
end UC
end
section
set_option Elab.async false
set_option linter.all false
set_option maxRecDepth 100000
set_option maxHeartbeats 1000000
namespace UC
open PySem L2 DL RD
/-- those below a monomial, exponent by exponent -/
def Bel (n : Nat) (c a : List Int) : Prop := a.length = n ∧ ∀ j < n, 0 ≤ gd a j ∧ gd a j ≤ gd c j
theorem Bel.nn {n : Nat} {c a : List Int} (h : Bel n c a) : NN n a := nn_of_gd h.1 fun j hj => (h.2 j hj).1
end UC
end
section
set_option Elab.async false
set_option linter.all false
set_option maxRecDepth 100000
set_option maxHeartbeats 1000000
namespace UC
open PySem L2 DL RD
end UC
end
section
set_option Elab.async false
set_option linter.all false
set_option maxRecDepth 100000
set_option maxHeartbeats 1000000
namespace UC
open PySem L2 DL RD
section
variable {n : Nat} {A B : List (List Int)} {st : Sto} {Q : DV → Sto → Prop}
abbrev J (n : Nat) (A : List (List Int)) : Prop := Idl n ((3 : Nat) : Int) 49 A
end
end UC
end
section
set_option Elab.async false
set_option linter.all false
set_option maxRecDepth 100000
set_option maxHeartbeats 1000000
namespace UC
open PySem L2 DL RD
def Unit1 (n : Nat) (q : List Int) : Prop := q.length = n ∧ ∀ j < n, gd q j = 0 ∨ gd q j = 1
theorem Unit1.nn {n : Nat} {q : List Int} (h : Unit1 n q) : NN n q := nn_of_gd h.1 fun j hj => by rcases h.2 j hj with e | e <;> omega
end UC
end
section
set_option Elab.async false
set_option linter.all false
set_option maxRecDepth 100000
set_option maxHeartbeats 1000000
namespace UC
open PySem L2 DL RD
end UC
end
section
set_option Elab.async false
set_option linter.all false
set_option maxRecDepth 100000
set_option maxHeartbeats 1000000
namespace UC
open PySem L2 DL RD
end UC
end
section
set_option Elab.async false
set_option linter.all false
set_option maxRecDepth 100000
set_option maxHeartbeats 2000000
namespace L2
open PySem PySem.Spec PyProof.Rows
end L2
namespace DL
open PySem PySem.Spec L2 PyProof.Rows
variable [tB : Tb] [gR : Gr]
section
variable {P : Program} {w : World} {K : PySem.W.Frag} {mg : Str → Option Value} {base : Heap} {X : Cx} {N : List Str} {sc fs : Scope} {k : Nat}
/-- xs[i] = v -/
def qLPut (to ti tv : TD) : TDs := fun D ε st => tv ε st fun v s1 => to ε s1 fun x s2 => ti ε s2 fun y s3 => match x, y with
  | .r a, .d (.int i) => ∃ xs j, s3 a = some (.lst xs) ∧ ixN xs.length i = some j ∧ D.nx ε (up s3 a (.lst (xs.set j v)))
  | _, _ => False
end
end DL
end
section
set_option Elab.async false
set_option linter.all false
set_option maxRecDepth 100000
set_option maxHeartbeats 2000000
namespace L2
open PySem PySem.Spec PyProof.Rows
/-- the value, a dict, is locked for good -/
def tFrz (t : TE) : TE := fun σ H Q => t σ H fun v H1 => ∃ d u, v = .ref d ∧ H1 d = some u ∧ Mut (some u) ∧ ∀ od, Q v (upd H1 d (.frz od u))
theorem pe_frz {X : Cx} {e : Expr} {t : TE} (h : PE X e t) : PE X e (tFrz t) := by
  refine ⟨fun pins s σ H Q I hw => ?_⟩
  refine thn (h.run pins s σ _ _ I hw) fun v s1 ⟨x, H1, I1, r, d, u, ex, hd, mu, q⟩ => ?_
  obtain ⟨od, I2⟩ := I1.lock hd mu
  exact ⟨x, _, I2, r, q od⟩
end L2
namespace DL
open PySem PySem.Spec L2 PyProof.Rows
variable [tB : Tb] [gR : Gr]
section
variable {P : Program} {w : World} {K : PySem.W.Frag} {mg : Str → Option Value} {base : Heap} {X : Cx} {N : List Str} {sc fs : Scope} {k : Nat}
/-- the value, a dict with tuples as keys, is locked for good -/
def qFrz (te : TD) : TD := fun ε st Q => te ε st fun x s1 => match x with
  | .r a => (match s1 a with
    | some (.dT kvs) => ∀ o ws, Q x (up s1 a (.lk o ws kvs))
    | _ => False)
  | _ => False
theorem de_frz {e : Expr} {te : TD} (h : DE X e te) : DE X e (qFrz te) := by
  obtain ⟨t1, p1, a1⟩ := h
  refine ⟨⟨_, pe_frz p1, fun F σ H ε st Qd Q R E h kk => ?_⟩⟩
  refine a1 F σ H ε st _ _ R E h fun F1 v H1 x s1 t1 R1 r q => ?_
  split at q
  rotate_left
  · exact q.elim
  rename_i a
  split at q
  rotate_left
  · exact q.elim
  rename_i kvs es
  cases r
  obtain ⟨ws, hw, pr⟩ := R1.ok a _ es
  refine ⟨a, .dT ws, rfl, hw, trivial, fun od => ?_⟩
  obtain ⟨R2, S2⟩ := lock_step R1 es hw pr od
  exact kk F1 _ _ _ _ (t1.trans S2) R2 (.r a) (q od ws)
theorem src_keys {F0 : Hp} {d : Addr} {o : Obj} {ws : List (List Key × V)} {kvs : List (List Key × DV)} (hi : BS.IntKeys kvs) : Src K F0 (Itkt d o ws) ((keysD kvs).map tupD) (fun s => s d = some (.lk o ws kvs)) := fun F H st e R iv => by
  obtain ⟨hw, pr⟩ := R.ok d _ iv
  have hl : ws.length = kvs.length := Paired.length pr
  refine ⟨fun i x hx => ?_, hw, by unfold keysD; rw [List.length_map, List.length_map, hl]; exact Nat.le_refl _⟩
  unfold keysD at hx
  rw [List.getElem?_map, List.getElem?_map] at hx
  cases hk : kvs[i]? with
  | none => rw [hk] at hx; cases hx
  | some p =>
    rw [hk] at hx
    cases hx
    have hil : i < kvs.length := (List.getElem?_eq_some_iff.mp hk).1
    refine ⟨⟨hw, by omega⟩, fun v H' ⟨eH, kk, u, q, e1, e3, e2⟩ => ?_⟩
    subst e3 eH
    obtain ⟨b, hb, ek, rv⟩ := L2.DX.pget (F := fun (p : List Key × V) (q : List Key × DV) => p.1 = q.1 ∧ RV K F p.2 q.2) pr hk |> fun ⟨y, hy, h1, h2⟩ => (⟨y, hy, h1, h2⟩ : ∃ y, ws[i]? = some y ∧ y.1 = p.1 ∧ RV K F y.2 p.2)
    rw [e1] at hb
    cases hb
    obtain ⟨ns, en⟩ := hi p (List.mem_of_getElem? hk)
    obtain ⟨R1, S1⟩ := ext_tups (bs := [q]) R fun c hc => by rw [List.mem_singleton.mp hc]; exact ⟨_, e2⟩
    have hq : extF F H' [q] q = some (.tup (ns.map V.int)) := by
      have ek' : kk = p.1 := ek
      rw [extF_in (List.mem_singleton.mpr rfl), e2, ek', en, BS.kV_inl]
    refine ⟨_, S1, R1, ?_⟩
    show RV K _ (V.ref q) (tupD (p.1.map BS.keyInt))
    rw [en, BS.keyInts_inl]
    exact .d (.tup hq (rp_all ns))
/-- .. in e, a locked dict with tuples as keys -/
def qiKeysT (te : TD) : TDi := fun ε st Q => te ε st fun x s1 => match x with
  | .r a => (match s1 a with
    | some (.lk o ws kvs) => BS.IntKeys kvs ∧ Q ((keysD kvs).map tupD) (fun s => s a = some (.lk o ws kvs)) s1
    | _ => False)
  | _ => False
theorem di_keysT {e tg : Expr} {te : TD} (h : DE X e te) : DI X tg e (qiKeysT te) := by
  obtain ⟨t1, p1, a1⟩ := h
  refine ⟨⟨_, pi_keys p1, fun F σ H ε st Qd R' R E h kk => ?_⟩⟩
  refine a1 F σ H ε st _ _ R E h fun F1 v H1 x s1 t1 R1 r q => ?_
  split at q
  rotate_left
  · exact q.elim
  rename_i a
  split at q
  rotate_left
  · exact q.elim
  rename_i o ws kvs es
  cases r
  obtain ⟨hw, pr⟩ := R1.ok a _ es
  exact ⟨a, o, rfl, .inr ⟨ws, hw, kk F1 _ H1 _ _ s1 t1 R1 (src_keys q.1) q.2⟩⟩
end
end DL
end
section
set_option Elab.async false
set_option linter.all false
set_option maxRecDepth 100000
set_option maxHeartbeats 2000000
namespace L2
open PySem PySem.Spec PyProof.Rows
/-- a promise that is kept where no guard stands -/
structure FnG (P : Program) (w : World) (K : PySem.W.Frag) (mg : Str → Option Value) (bs : Heap) (k : Nat) (f : Addr) (fd : FuncData) (ps : List Str) (sp : Sp) : Prop where
  lenG : ∀ vs H Q E, sp vs H Q E → vs.length = ps.length
  runG : ∀ (A : Around) (out : List Env) (s : Shared) (H : Hp) (ar : Args) (us : List Value) (vs : List V) (Q : VK) (E : XK), A.guards = some [] → Room k A → Env0 P w K mg bs A out s H → BindsTo s fd ar (ps.zip us) →
    Vals vs us → sp vs H Q E → codeAny (model P w) A (.call (.ref f) ar) (CR CX0 out P w H s Q E) s
end L2
end
section
set_option Elab.async false
set_option linter.all false
set_option maxRecDepth 100000
set_option maxHeartbeats 2000000
namespace DL
open PySem PySem.Spec L2 PyProof.Rows
end DL
end
section
set_option Elab.async false
set_option linter.all false
set_option maxRecDepth 100000
set_option maxHeartbeats 2000000
namespace L2
open PySem PySem.Spec PyProof.Rows
section
variable {X : Cx} {CX : CXT} {k j : Nat} {f : Addr} {fd : FuncData} {ps : List Str} {sp : Sp} {x : Str} {p pos : Pos} {e : Expr} {es : List Expr} {t : TA}
theorem FnG.mono {P : Program} {w : World} {K : PySem.W.Frag} {mg : Str → Option Value} {base : Heap} (F : FnG P w K mg base j f fd ps sp) (h : j ≤ k) : FnG P w K mg base k f fd ps sp :=
  ⟨F.lenG, fun A outer s H args us vs Q E hg hr => F.runG A outer s H args us vs Q E hg (hr.mono h)⟩
end
end L2
namespace DL
open PySem PySem.Spec L2 PyProof.Rows
end DL
end
section
set_option Elab.async false
set_option linter.all false
set_option maxRecDepth 100000
set_option maxHeartbeats 2000000
namespace L2
open PySem PySem.Spec PyProof.Rows
end L2
namespace DL
open PySem PySem.Spec L2 PyProof.Rows
end DL
end
section
set_option Elab.async false
set_option linter.all false
set_option maxRecDepth 100000
set_option maxHeartbeats 4000000
namespace DL
open PySem PySem.Spec L2 PyProof.Rows
end DL
end
section
set_option Elab.async false
set_option linter.all false
set_option maxRecDepth 100000
set_option maxHeartbeats 4000000
namespace DL
open PySem PySem.Spec L2 PyProof.Rows
end DL
namespace DL
open PySem PySem.Spec L2 PyProof.Rows
end DL
end
section
set_option Elab.async false
set_option linter.all false
set_option maxRecDepth 100000
set_option maxHeartbeats 4000000
namespace SKy
open PySem PyProof.Rows
abbrev Kp (h h' : Heap) : Prop := ∀ b o, h.get? b = some o → h'.get? b = some o
section
variable {prog : Program} {w : World} {A : Around} {E : Value → Shared → Prop} {s : Shared} {h0 : Heap} {a kS : Addr} {vs : List Value} {kz : List Int} {keys : Array Value} {e e1 : Nat} {P : PySem.Fin → Shared → Prop}
theorem up_kp {h : Heap} {a : Addr} {f : Obj → Obj} (k : Kp h0 h) (n : h0.get? a = none) : Kp h0 (h.update a f) := fun b o q => by
  rw [Heap.get?_update_other _ _ (fun z => by rw [← z, n] at q; cases q)]
  exact k b o q
theorem end_kp (k0 : Kp h0 s.heap) (na : h0.get? a = none) (nk : h0.get? kS = none) (ne : kS ≠ a) (oa : s.heap.get? a = some (seqObj "list" #[] e1)) (ok : s.heap.get? kS = some (seqObj "list" keys e))
    (hk : IntsAre keys.toList kz) (hlen : kz.length = vs.length) (hZ : vs.length ≤ sizeLine)
    (fin : ∀ h' tk out c, Kp h0 h' → h'.get? a = some (seqObj "list" out c) → KskOutSt false kz vs out.toList → P (.done (.ret .none)) { s with heap := h', toks := tk }) :
    wpAny (model prog w) A (ksk_end a false vs.toArray e1 (.ref kS) keys) P E s := by
  have hZ2 : vs.length ≤ 16777216 := by rw [sizeLine_eq] at hZ; exact hZ
  have lk : keys.size = vs.length := by
    have := hk.length
    rw [Array.length_toList] at this
    omega
  have lz : (keys.zip vs.toArray).size = vs.length := by rw [Array.size_zip, lk, List.size_toArray, Nat.min_self]
  have tail : ∀ st : SortSt, (arrOf st).Perm (keys.zip vs.toArray) → SortedTo (arrOf st) (arrOf st).size → failedOf st = none → Stable intKind (arrOf st) (keys.zip vs.toArray) → wpAny (model prog w) A (ksk_tail a false e1 (.ref kS) st) P E s := by
    intro st p1 p2 p3 p4
    have l2 : (arrOf st).size = vs.length := by rw [p1.size_eq, lz]
    have oa1 : (s.heap.update kS (Obj.mapSeq fun _ => (#[] : Array Value))).get? a = some (seqObj "list" #[] e1) := by rw [Heap.get?_update_other _ _ ne]; exact oa
    obtain ⟨c2, o2⟩ : ∃ c2, ((s.heap.update kS (Obj.mapSeq fun _ => (#[] : Array Value))).update a (Obj.mapSeq fun _ => (arrOf st).map (·.2))).get? a = some (seqObj "list" ((arrOf st).map (·.2)) c2) := ⟨_, get?_update_seq oa1 fun _ => (arrOf st).map (·.2)⟩
    unfold ksk_tail; try dsimp only
    refine wpAny_bind (listUpdate_at ok rfl ?_ (by rw [lk, sizeLine_eq]; omega) (Nat.zero_le _)); refine wpAny_bind (wpAny_letGo ?_)
    refine wpAny_bind (seqEpoch_at oa1 rfl ?_); refine wpAny_bind (listUpdate_at oa1 rfl ?_ (Nat.zero_le _) (by simp only [Bool.false_eq_true, if_false, Array.size_map]; rw [l2, sizeLine_eq]; omega))
    rw [p3]; simp only [bne_self_eq_false, Bool.false_eq_true, if_false]
    have out := ksk_outSt (vs := vs) (b := false) hk p1 p2 p4
    exact wpAny_pure (fin _ _ _ c2 (up_kp (up_kp k0 nk) na) o2 out)
  unfold ksk_end; try dsimp only
  rw [if_neg Bool.false_ne_true, if_neg Bool.false_ne_true]
  by_cases h2 : vs.toArray.size < 2
  · rw [if_pos h2, if_pos h2]
    refine wpAny_bind (wpAny_pure ?_); rw [StateT.run_pure]
    refine wpAny_bind (wpAny_pure ?_); try dsimp only
    refine tail _ (Array.Perm.refl _) (fun i j hij hj => ?_) rfl (Stable.refl _)
    have hj2 : j < (keys.zip vs.toArray).size := hj
    rw [lz] at hj2
    rw [List.size_toArray] at h2
    have z : i = j := by omega
    rw [z]
    exact Int.le_refl _
  · rw [if_neg h2, if_neg h2]
    rw [List.size_toArray] at h2
    rw [ksk_kind hk (by rw [lk]; omega)]
    refine wpAny_bind (wpAny_pure ?_)
    refine wpAny_bind (wpAny_mono (wpS_sortRunsSt (κ := intKind) (a₀ := keys.zip vs.toArray) (st := SortSt.mk' oneType' (keys.zip vs.toArray) #[] 7 none)
      (Q := fun _ z => (arrOf z).Perm (keys.zip vs.toArray) ∧ failedOf z = none ∧ SortedTo (arrOf z) (arrOf z).size ∧ Stable intKind (arrOf z) (keys.zip vs.toArray)) intKind_oneLt (ksk_keysOfInt (ksk_intKeys hk)) ⟨Array.Perm.refl _, rfl, rfl⟩ rfl (Stable.refl _) (by rw [lz]; omega)
      fun z a1 a2 a3 a4 => ⟨a1, a2, by rw [a1.size_eq]; exact sortedTo_of_int a3, a4⟩) ?_ fun _ _ e => e)
    rintro ⟨⟨⟩, z⟩ s' ⟨rfl, p1, p2, p3, p4⟩; try dsimp only
    exact tail z p1 p3 p2 p4
theorem tree_kp {f : Value} {n : Nat} (k0 : Kp h0 s.heap) (na : h0.get? a = none) (ho : s.heap.get? a = some (seqObj "list" vs.toArray n)) (hlen : kz.length = vs.length) (hZ : vs.length ≤ sizeLine)
    (turn : ∀ (i : Nat) (v : Value) (k : Int), vs[i]? = some v → kz[i]? = some k → ∀ (h : Heap) (tk : Nat), Kp h0 h → wpAny (model prog w) A (call f [v]) (fun r z => ∃ h' tk' t, z = { s with heap := h', toks := tk' } ∧ r = .int k t ∧ Kp h h') (fun _ _ => False) { s with heap := h, toks := tk })
    (fin : ∀ h' tk out c, Kp h0 h' → h'.get? a = some (seqObj "list" out c) → KskOutSt false kz vs out.toList → P (.done (.ret .none)) { s with heap := h', toks := tk }) : wpAny (model prog w) A (ksk_tree a f false) P E s := by
  have hZ2 : vs.length ≤ 16777216 := by rw [sizeLine_eq] at hZ; exact hZ
  have lta := Heap.lt_size ho
  obtain ⟨e1, o1⟩ : ∃ e1, (s.heap.update a (Obj.mapSeq fun _ => (#[] : Array Value))).get? a = some (seqObj "list" #[] e1) := ⟨_, get?_update_seq ho fun _ => #[]⟩
  have sz : ((s.heap.update a (Obj.mapSeq fun _ => (#[] : Array Value))).push (seqObj "tuple" vs.toArray 0)).objs.size = s.heap.objs.size + 1 := by rw [size_push', Heap.size_update]
  have nk : h0.get? (s.heap.objs.size + 1) = none := by
    cases q : h0.get? (s.heap.objs.size + 1) with
    | none => rfl
    | some o =>
      exact absurd (Heap.lt_size (k0 _ _ q)) (Nat.not_lt.mpr (Nat.le_succ _))
  have nka : s.heap.objs.size + 1 ≠ a := Nat.ne_of_gt (Nat.lt_succ_of_lt lta)
  unfold ksk_tree
  refine wpAny_bind (listItems_at ho rfl ?_); refine wpAny_bind (listUpdate_at ho rfl ?_ (by rw [List.size_toArray, sizeLine_eq]; exact hZ2) (Nat.zero_le _))
  refine wpAny_bind (seqEpoch_at o1 rfl ?_); refine wpAny_bind (wpAny_newTuple ?_ (by show vs.length ≤ _; rw [sizeLine_eq]; exact hZ2))
  refine wpAny_bind (wpAny_newList ?_ (Nat.zero_le _)); refine wpAny_holding ?_
  have k1 : Kp h0 (((s.heap.update a (Obj.mapSeq fun _ => (#[] : Array Value))).push (seqObj "tuple" vs.toArray 0)).push (seqObj "list" #[] 0)) := fun b o q => Heap.get?_push_of_some _ (Heap.get?_push_of_some _ (up_kp k0 na b o q))
  have oa : (((s.heap.update a (Obj.mapSeq fun _ => (#[] : Array Value))).push (seqObj "tuple" vs.toArray 0)).push (seqObj "list" #[] 0)).get? a = some (seqObj "list" #[] e1) := Heap.get?_push_of_some _ (Heap.get?_push_of_some _ o1)
  have oK : (((s.heap.update a (Obj.mapSeq fun _ => (#[] : Array Value))).push (seqObj "tuple" vs.toArray 0)).push (seqObj "list" #[] 0)).get? (s.heap.objs.size + 1) = some (seqObj "list" #[] 0) := by rw [← sz]; exact Heap.get?_push_size _ rfl
  rw [sz]
  generalize ((s.heap.update a (Obj.mapSeq fun _ => (#[] : Array Value))).push (seqObj "tuple" vs.toArray 0)).push (seqObj "list" #[] 0) = hA at k1 oa oK
  unfold ksk_rest
  refine wpAny_bind (wpAny_rule ?_)
  first
    | rw [List.forIn_toArray]
    | (rw [← Array.forIn_toList]; simp only [List.toList_toArray])
  refine wpAny_bind (ksk_fold (fun i z => ∃ h' tk kA e, z = { s with heap := h', toks := tk } ∧ Kp h0 h' ∧ h'.get? a = some (seqObj "list" #[] e1) ∧ h'.get? (s.heap.objs.size + 1) = some (seqObj "list" kA e) ∧ IntsAre kA.toList (kz.take i)) vs 0 _ ⟨hA, _, #[], 0, rfl, k1, oa, oK, by simpa using IntsAre.nil⟩ ?go ?done)
  case go =>
    rintro j x z hx ⟨h', tk, kA, e, rfl, kk, pa, pk, hk⟩
    simp only [Nat.zero_add] at hk ⊢
    have hj : j < vs.length := (List.getElem?_eq_some_iff.mp hx).1
    obtain ⟨k, hkj⟩ : ∃ k, kz[j]? = some k := ⟨_, List.getElem?_eq_getElem (by omega)⟩
    have lA : kA.size ≤ vs.length := by
      have := hk.length
      rw [Array.length_toList, List.length_take] at this
      omega
    refine wpAny_bind (wpAny_attempt (wpAny_mono (turn j x k hx hkj h' tk kk) (fun v z2 he => ?_) fun _ _ hF => hF.elim))
    obtain ⟨g, tk2, t2, rfl, rfl, k2⟩ := he; try dsimp only
    have pk2 := k2 _ _ pk
    obtain ⟨c2, q2⟩ : ∃ c2, (g.update (s.heap.objs.size + 1) (Obj.mapSeq (·.push (.int k t2)))).get? (s.heap.objs.size + 1) = some (seqObj "list" (kA.push (.int k t2)) c2) := ⟨_, get?_update_seq pk2 (·.push (.int k t2))⟩
    have et : kz.take (j + 1) = kz.take j ++ [k] := by rw [List.take_add_one, hkj]; simp
    refine wpAny_bind (listUpdate_at pk2 rfl ?_ (by rw [sizeLine_eq]; omega) (Nat.le_trans (Nat.le_of_eq (Array.size_push ..)) (by rw [sizeLine_eq]; omega)))
    refine wpAny_pure ⟨rfl, _, _, kA.push (.int k t2), c2, rfl, up_kp (fun b o q => k2 _ _ (kk b o q)) nk, ?_, q2, ?_⟩
    · rw [Heap.get?_update_other _ _ nka]; exact k2 _ _ pa
    · rw [show (kA.push (Value.int k t2)).toList = kA.toList ++ [Value.int k t2] by simp, et]; exact ksk_snoc hk
  case done =>
    rintro z ⟨h', tk, kA, e, rfl, kk, pa, pk, hk⟩
    have hk' : IntsAre kA.toList kz := by rw [List.take_of_length_le (by omega)] at hk; exact hk
    try dsimp only
    refine wpAny_bind (listItems_at pk rfl ?_)
    exact end_kp kk na nk nka pa pk hk' hlen hZ fun h3 tk3 out c k3 o3 r3 => fin h3 tk3 out c k3 o3 r3
theorem sorted_kp {l : Addr} {f : Value} {kw : List (Str × Value)} {Q : Value → Shared → Prop} (hl : s.heap.IsList l vs.toArray) (hlen : kz.length = vs.length) (hZ : vs.length ≤ sizeLine)
    (hA1 : argsOk "sorted" ⟨[.ref l], kw⟩) (hA2 : ∀ x, argsOk "list.sort" ⟨[.ref x], kw⟩) (ht : ∀ x, Builtin.«list.sort» ⟨[.ref x], kw⟩ = ksk_tree x f false)
    (turn : ∀ (i : Nat) (v : Value) (k : Int), vs[i]? = some v → kz[i]? = some k → ∀ (h : Heap) (tk : Nat), Kp s.heap h → wpAny (model prog w) A.in1.in1 (call f [v]) (fun r z => ∃ h' tk' t, z = { s with heap := h', toks := tk' } ∧ r = .int k t ∧ Kp h h') (fun _ _ => False) { s with heap := h, toks := tk })
    (fin : ∀ D h' tk out c, Kp s.heap h' → s.heap.objs.size ≤ D → h'.get? D = some (seqObj "list" out c) → KskOutSt false kz vs out.toList → Q (.ref D) { s with heap := h', toks := tk }) :
    wpAny (model prog w) A (call (.builtin "sorted") [.ref l] kw) Q E s := by
  have hZ2 : vs.length ≤ 16777216 := by rw [sizeLine_eq] at hZ; exact hZ
  refine call_function_entry_kw kind_sorted plain_sorted entry_sorted hA1 ?_; unfold Builtin.«sorted»
  refine wpAny_bind (m := checkCount "sorted" 1 1 _) (wpAny_pure ?_); refine wpAny_bind (collect_list hl ?_ (by rw [sizeLine_eq]; exact hZ2))
  refine wpAny_bind (wpAny_newList ?_ (by rw [sizeLine_eq]; exact hZ2))
  have sz : ((s.heap.push (seqObj "list" #[] 0)).update s.heap.objs.size (Obj.mapSeq (· ++ vs.toArray))).objs.size = s.heap.objs.size + 1 := by rw [Heap.size_update, size_push']
  have oD : (((s.heap.push (seqObj "list" #[] 0)).update s.heap.objs.size (Obj.mapSeq (· ++ vs.toArray))).push (seqObj "list" vs.toArray 0)).get? (s.heap.objs.size + 1) = some (seqObj "list" vs.toArray 0) := by rw [← sz]; exact Heap.get?_push_size _ rfl
  have kp : Kp s.heap (((s.heap.push (seqObj "list" #[] 0)).update s.heap.objs.size (Obj.mapSeq (· ++ vs.toArray))).push (seqObj "list" vs.toArray 0)) := fun b o q => by
    have hb : b ≠ s.heap.objs.size := Nat.ne_of_lt (Heap.lt_size q)
    refine Heap.get?_push_of_some _ ?_
    rw [Heap.get?_update_other _ _ (Ne.symm hb)]
    exact Heap.get?_push_of_some _ q
  show wpAny _ _ _ _ _ { s with heap := ((s.heap.push (seqObj "list" #[] 0)).update s.heap.objs.size (Obj.mapSeq (· ++ vs.toArray))).push (seqObj "list" vs.toArray 0) }
  rw [sz]
  refine wpAny_bind (wpAny_holding (wpAny_call_entry_kw slot_list_sort ⟨_, oD, rfl⟩ entry_list_sort ?main (hA2 _)))
  case main =>
    show wpAny (model prog w) A.in1.in1 (Builtin.«list.sort» ⟨[.ref (s.heap.objs.size + 1)], kw⟩) _ _ _
    rw [ht]
    refine tree_kp (h0 := s.heap) kp (Heap.get?_none_of_le (Nat.le_succ _)) oD hlen hZ turn fun h' tk out c k1 o1 r1 => ⟨_, rfl, ?_⟩
    exact wpAny_pure ⟨_, rfl, fin _ h' tk out c k1 (Nat.le_succ _) o1 r1⟩
end
theorem uniq {α : Type} : ∀ {ps qs : List (Int × α)}, ps.Pairwise (fun p q => p.1 ≤ q.1) → qs.Pairwise (fun p q => p.1 ≤ q.1) → (∀ c, ps.filter (fun p => p.1 == c) = qs.filter (fun p => p.1 == c)) → ps = qs
  | [], [], _, _, _ => rfl
  | [], q :: qs, _, _, h => by have := h q.1; simp at this
  | p :: ps, [], _, _, h => by have := h p.1; simp at this
  | p :: ps, q :: qs, hp, hq, h => by
    have mq : p ∈ (q :: qs).filter (fun z => z.1 == p.1) := by rw [← h p.1]; simp
    have mp : q ∈ (p :: ps).filter (fun z => z.1 == q.1) := by rw [h q.1]; simp
    have l1 : q.1 ≤ p.1 := by
      rcases List.mem_cons.mp (List.mem_filter.mp mq).1 with z | z
      · rw [z]; exact Int.le_refl _
      · exact (List.pairwise_cons.mp hq).1 _ z
    have l2 : p.1 ≤ q.1 := by
      rcases List.mem_cons.mp (List.mem_filter.mp mp).1 with z | z
      · rw [z]; exact Int.le_refl _
      · exact (List.pairwise_cons.mp hp).1 _ z
    have e1 : p.1 = q.1 := by omega
    have e := h p.1
    rw [List.filter_cons, List.filter_cons, if_pos (by simp), if_pos (by simp [e1])] at e
    have epq : p = q := (List.cons.inj e).1
    subst epq
    rw [uniq (List.pairwise_cons.mp hp).2 (List.pairwise_cons.mp hq).2 fun c => by
      have z := h c
      rw [List.filter_cons, List.filter_cons] at z
      split at z
      · exact (List.cons.inj z).2
      · exact z]
abbrev leS {α : Type} (p q : Int × α) : Bool := decide (p.1 ≤ q.1)
theorem stab {α : Type} (l : List (Int × α)) : (l.mergeSort leS).Pairwise (fun p q => p.1 ≤ q.1) ∧ ∀ c, (l.mergeSort leS).filter (fun p => p.1 == c) = l.filter (fun p => p.1 == c) := by
  have tr : ∀ a b c : Int × α, leS a b = true → leS b c = true → leS a c = true := fun a b c h1 h2 => decide_eq_true (Int.le_trans (of_decide_eq_true h1) (of_decide_eq_true h2))
  have tot : ∀ a b : Int × α, (leS a b || leS b a) = true := fun a b => by
    rcases Int.le_total a.1 b.1 with h | h
    · simp [leS, h]
    · simp [leS, h]
  refine ⟨List.Pairwise.imp (fun h => of_decide_eq_true h) (List.pairwise_mergeSort tr tot l), fun c => ?_⟩
  have pw : (l.filter (fun p => p.1 == c)).Pairwise fun a b => leS a b = true := by
    refine List.pairwise_of_forall_mem_list fun a ha b hb => ?_
    have h1 := (List.mem_filter.mp ha).2
    have h2 := (List.mem_filter.mp hb).2
    simp only [beq_iff_eq] at h1 h2
    exact decide_eq_true (by rw [h1, h2]; exact Int.le_refl _)
  have sb := List.sublist_mergeSort tr tot pw List.filter_sublist
  have sb2 := sb.filter (fun p => p.1 == c)
  rw [List.filter_filter] at sb2
  simp only [Bool.and_self] at sb2
  refine (sb2.eq_of_length ?_).symm
  exact ((List.mergeSort_perm l leS).filter (fun p => p.1 == c)).length_eq.symm
end SKy
end
section
set_option Elab.async false
set_option linter.all false
set_option maxRecDepth 100000
set_option maxHeartbeats 4000000
namespace DL
open PySem PySem.Spec L2 PyProof.Rows
variable [tB : Tb] [gR : Gr]
/-- by sums, those of one sum in the order in which they stood -/
def sortS (L : List (List Int)) : List (List Int) := ((L.map fun a => (a.sum, a)).mergeSort SKy.leS).map (·.2)
def tSortS (K : PySem.W.Frag) (t1 : TE) : TE := fun σ H Q => t1 σ H fun x H1 => ∃ (a : Addr) (ks : List (Addr × List Int)), x = .ref a ∧ SqL K H1 a (ks.map fun p => V.ref p.1) ∧ (∀ p ∈ ks, SqT K H1 p.1 (p.2.map V.int)) ∧
  ∀ p : Addr, H1 p = none → Q (.ref p) (upd H1 p (.lst (((ks.map fun z => (z.2.sum, z)).mergeSort SKy.leS).map fun z => V.ref z.2.1)))
theorem vals_ref_of {ks : List Addr} : ∀ {us : List Value}, Vals (ks.map V.ref) us → us = ks.map Value.ref := by
  induction ks with
  | nil => intro us h; cases h; rfl
  | cons a r ih => intro us h; cases h with | cons h1 h2 => rw [ih h2, show _ = Value.ref a from h1]; rfl
section
variable {X : Cx}
omit tB gR in
theorem pe_sortS {e : Expr} {t1 : TE} {p q kp pos : Pos} (hc : X.calm = true) (hg : Gl X "sorted") (hm : X.mg "sorted" = none) (hg2 : Gl X "sum") (hm2 : X.mg "sum" = none) (h : PE X e t1)
    (he : starEach [e] X.env = (false, eval e X.env) :: starEach [] X.env := by rfl) : PE X (.Call (.Name "sorted" p) [e] [⟨some "key", .Name "sum" q, kp⟩] pos) (tSortS X.K t1) := by
  refine ⟨fun pins s σ H Q I w => ?_⟩
  refine wpAny_Call_Name_kw (ld_blt I hg hm bb_sorted ?_ (by decide) (by decide))
  have he2 : backTo pos (starEach [e] X.env) = (false, eval e X.env) :: backTo pos (starEach [] X.env) := by rw [he]; rfl
  have hp2 : (backTo pos (starEach [e] X.env)).any (·.1) = false := by rw [he2]; rfl
  refine PyProof.Rows.callWith_kw ?_ he2 hp2 rfl rfl
  rw [he2]
  refine Calls.spliced_cons (thn (h.run pins s σ H _ I w) fun u s1 hh => Calls.spliced_nil ?_)
  obtain ⟨x, H1, I1, ru, a, ks, rfl, hs, hk, fin⟩ := hh
  show wpAny _ _ (evalAll ((do let v ← eval (.Name "sum" q) X.env; standAt pos; pure v) :: (backToKw pos (keywordEach [] X.env)).map (·.2))) _ _ s1
  refine wpAny_evalAll_cons (wpAny_bind (ld_blt I1 hg2 hm2 bb_sum (wpAny_bind (wpAny_standAt (wpAny_pure ?_))) (by decide) (by decide)))
  refine wpAny_evalAll_nil ?_
  obtain rfl : u = Value.ref a := ru
  obtain ⟨its, rv, hl, hz⟩ := I1.list hs
  rw [show (ks.map fun p => V.ref p.1) = (ks.map (·.1)).map V.ref by rw [List.map_map]; rfl] at rv hz
  have eits := vals_ref_of rv
  subst eits
  have lks : (ks.map fun z => z.2.sum).length = ((ks.map (·.1)).map Value.ref).length := by simp
  rw [List.length_map] at hz
  refine SKy.sorted_kp (kz := ks.map fun z => z.2.sum) hl.isList lks (by rw [List.length_map]; exact hz) (PyProof.Rows.ksk_s1 _ _) (fun _ => PyProof.Rows.ksk_l1 _ _) (fun x => PyProof.Rows.ksk_t4 _ x) (fun i v k hv hkz h' tk kp => ?_) fun D h' tk out c kp hD ho r1 => ?_
  · rw [List.getElem?_map, List.getElem?_map] at hv
    rw [List.getElem?_map] at hkz
    cases hki : ks[i]? with
    | none => rw [hki] at hv; cases hv
    | some z =>
      rw [hki] at hv hkz
      cases hv
      cases hkz
      obtain ⟨ts, rt, ht, _⟩ := I1.tuple (hk z (List.mem_of_getElem? hki))
      have hi := rt.ints
      obtain ⟨xs, e1⟩ := hi.allInts.items
      have hn : numsOf (intItems xs).toList = z.2 := by rw [← e1]; exact hi.numsOf
      rw [nums_intItems] at hn
      rw [e1] at ht
      obtain ⟨o, oc, od, ohd⟩ := ht
      refine PySem.W.ktm_sumG (s := { s1 with heap := h', toks := tk }) (I1.ok.hd hc) ⟨o, kp _ _ oc, od, ohd⟩ fun h2 tk2 t2 k2 => ?_
      rw [preSum_eq, List.take_of_length_le (by simp), hn]
      exact ⟨h2, tk2, t2, rfl, rfl, k2⟩
  · obtain ⟨ps, hp1, hp2, hp3, hp4⟩ := r1
    have ez : (ks.map fun z => z.2.sum).zip ((ks.map (·.1)).map Value.ref) = (ks.map fun z => (z.2.sum, z)).map fun w => (w.1, Value.ref w.2.1) := by
      rw [List.map_map, List.map_map, List.zip_map']
      rfl
    obtain ⟨st1, st2⟩ := SKy.stab (ks.map fun z => (z.2.sum, z))
    have epq : ps = ((ks.map fun z => (z.2.sum, z)).mergeSort SKy.leS).map fun w => (w.1, Value.ref w.2.1) := by
      refine SKy.uniq (by simpa using hp3) (List.pairwise_map.mpr st1) fun c => ?_
      have z := congrArg (List.map fun w : Int × (Addr × List Int) => (w.1, Value.ref w.2.1)) (st2 c)
      rw [hp4 c, ez]
      have f1 : ∀ L : List (Int × (Addr × List Int)), List.filter (fun p : Int × Value => p.1 == c) (L.map fun w => (w.1, Value.ref w.2.1)) = (L.filter fun p => p.1 == c).map fun w => (w.1, Value.ref w.2.1) := fun L => by rw [List.filter_map]; rfl
      rw [f1, f1]
      exact z.symm
    have eout : out = ((((ks.map fun z => (z.2.sum, z)).mergeSort SKy.leS).map fun w => w.2.1).map Value.ref).toArray := by
      apply Array.toList_inj.mp
      rw [hp2, epq, List.map_map, List.map_map, List.toList_toArray]
      rfl
    rw [eout] at ho
    have rr : Vals (((ks.map fun z => (z.2.sum, z)).mergeSort SKy.leS).map fun z => V.ref z.2.1) ((((ks.map fun z => (z.2.sum, z)).mergeSort SKy.leS).map fun w => w.2.1).map Value.ref) := by
      rw [show (((ks.map fun z => (z.2.sum, z)).mergeSort SKy.leS).map fun z => V.ref z.2.1) = (((ks.map fun z => (z.2.sum, z)).mergeSort SKy.leS).map fun w => w.2.1).map V.ref by rw [List.map_map]; rfl]
      exact L2.vals_refs _
    have hlen : (((ks.map fun z => (z.2.sum, z)).mergeSort SKy.leS).map fun z => V.ref z.2.1).length ≤ sizeLine := by
      rw [List.length_map, List.length_mergeSort, List.length_map]
      rw [List.length_map] at hz
      exact hz
    exact ⟨.ref D, _, I1.laid (t' := tk) (o := .lst (((ks.map fun z => (z.2.sum, z)).mergeSort SKy.leS).map fun z => V.ref z.2.1)) kp hD ⟨hlen, _, c, rr, ho⟩, rfl, fin D (I1.hok.fresh hD)⟩
end
section
variable {P : Program} {w : World} {K : PySem.W.Frag} {mg : Str → Option Value} {base : Heap} {X : Cx} {N : List Str} {sc fs : Scope} {k : Nat}
def qSortS (m : Bool) (te : TD) : TD := fun ε st Q => te ε st fun x s1 => match litems s1 x with
  | some l => (match tints l with
    | some ts => newL m ((sortS ts).map fun a => .d (.tuple (a.map .int))) s1 Q
    | none => False)
  | none => False
theorem de_sortS {e : Expr} {te : TD} {p q kp pos : Pos} (m : Bool) (c : Cok P w K mg base X N sc fs k) (hg : glB sc "sorted" = true) (hm : mg "sorted" = none) (hg2 : glB sc "sum" = true) (hm2 : mg "sum" = none) (ha : DE X e te)
    (he : starEach [e] X.env = (false, eval e X.env) :: starEach [] X.env := by rfl) : DE X (.Call (.Name "sorted" p) [e] [⟨some "key", .Name "sum" q, kp⟩] pos) (qSortS m te) := by
  obtain ⟨t1, p1, a1⟩ := ha
  have g := gl_of c hg
  have g2 := gl_of c hg2
  refine ⟨⟨_, pe_sortS c.calm g.1 (by rw [c.hmg]; exact hm) g2.1 (by rw [c.hmg]; exact hm2) p1 he, fun F σ H ε st Qd Q R E h kk => ?_⟩⟩
  refine a1.go (W := fun x H1 => _) R E h kk fun F1 H1 s1 v y R1 E1 rv q kk => ?_
  split at q
  rotate_left
  · exact q.elim
  rename_i l el
  split at q
  rotate_left
  · exact q.elim
  rename_i ts et
  obtain ⟨pa, vs, rfl, hq, s⟩ := litems_rv R1 rv el
  obtain ⟨ks, rfl, rfl, hF⟩ := tints_rvs s et
  refine ⟨pa, ks, rfl, hq, fun z hz => SqT.of (R1.sub _ _ (hF z hz)).1, fun pp hp => ?_⟩
  have e1 : sortS (ks.map (·.2)) = ((ks.map fun z => (z.2.sum, z)).mergeSort SKy.leS).map fun w => w.2.2 := by
    unfold sortS
    rw [show ((ks.map (·.2)).map fun a => (a.sum, a)) = (ks.map fun z => (z.2.sum, z)).map fun w => (w.1, w.2.2) by rw [List.map_map, List.map_map]; rfl]
    rw [← List.map_mergeSort (r := SKy.leS) (s := SKy.leS) (f := fun w : Int × (Addr × List Int) => (w.1, w.2.2)) fun a _ b _ => rfl, List.map_map]
    rfl
  rw [e1, List.map_map] at q
  refine new_lst R1 (m := m) ?_ hp q kk
  have : ∀ L : List (Int × (Addr × List Int)), (∀ z ∈ L, z.2 ∈ ks) → RVs X.K F1 (L.map fun w => V.ref w.2.1) (L.map ((fun a => DV.d (.tuple (a.map .int))) ∘ fun w => w.2.2)) := by
    intro L
    induction L with
    | nil => exact fun _ => .nil
    | cons z r ih => exact fun hz => .cons (.d (.tup (hF z.2 (hz z List.mem_cons_self)) (rp_all z.2.2))) (ih fun y hy => hz y (List.mem_cons_of_mem _ hy))
  refine this _ fun z hz => ?_
  obtain ⟨y, hy, rfl⟩ := List.mem_map.mp ((List.mergeSort_perm _ _).mem_iff.mp hz)
  exact hy
end
end DL
end
section
set_option Elab.async false
set_option linter.all false
set_option maxRecDepth 100000
set_option maxHeartbeats 1000000
namespace UC
open PySem L2 DL RD
theorem ev_below (b : List Int) : ∀ T : Tab, ((T.filter fun p => divB p.1 b).map (·.2)).sum = evT (chi b) T
  | [] => rfl
  | p :: T => by
    rw [List.filter_cons, evT, ← ev_below b T]
    unfold chi
    by_cases h : divB p.1 b = true
    · rw [if_pos h, if_pos h, List.map_cons, List.sum_cons, Int.mul_one]
    · rw [if_neg h, if_neg h, Int.mul_zero, Int.zero_add]
def moN (T : Tab) (b : List Int) : Int := if T.length = 0 then 1 else -evT (chi b) T
def moS (T : Tab) (b : List Int) : Tab := putZ T b (moN T b)
def moZ (L : List (List Int)) : Tab := L.foldl moS []
theorem mo_snoc (L : List (List Int)) (b : List Int) : moZ (L ++ [b]) = moS (moZ L) b := by
  unfold moZ
  rw [List.foldl_append]
  rfl
theorem put_new {T : Tab} {a : List Int} (h : a ∉ keysZ T) (v : Int) : putZ T a v = T ++ [(a, v)] := by
  unfold putZ
  rw [if_neg fun z => h (any_key.mp z)]
theorem snoc_rec {α : Type} {P : List α → Prop} (h0 : P []) (h1 : ∀ l a, P l → P (l ++ [a])) (l : List α) : P l := by
  have key : ∀ r : List α, P r.reverse := by
    intro r
    induction r with
    | nil => exact h0
    | cons a r ih => rw [List.reverse_cons]; exact h1 _ _ ih
  have := key l.reverse
  rw [List.reverse_reverse] at this
  exact this
theorem keys_mo : ∀ L : List (List Int), L.Nodup → keysZ (moZ L) = L := by
  refine snoc_rec (fun _ => rfl) fun L b ih h => ?_
  obtain ⟨h1, _, h3⟩ := List.nodup_append.mp h
  have hb : b ∉ L := fun z => h3 _ z _ (List.mem_singleton.mpr rfl) rfl
  rw [mo_snoc]
  unfold moS
  rw [keys_put, ih h1]
  unfold addA
  rw [if_neg hb]
theorem mo_new {L : List (List Int)} {b : List Int} (h : (L ++ [b]).Nodup) : moZ (L ++ [b]) = moZ L ++ [(b, moN (moZ L) b)] := by
  obtain ⟨h1, _, h3⟩ := List.nodup_append.mp h
  have hb : b ∉ L := fun z => h3 _ z _ (List.mem_singleton.mpr rfl) rfl
  rw [mo_snoc]
  unfold moS
  exact put_new (by rw [keys_mo L h1]; exact hb) _
theorem ev_mo : ∀ L : List (List Int), L.Pairwise (fun a b => divB b a = false) → ∀ b ∈ L, evT (chi b) (moZ L) = if L.head? = some b then 1 else 0 := by
  refine snoc_rec (fun _ b hb => nomatch hb) fun L c ih h b hb => ?_
  have hp := h
  obtain ⟨h1, _, h3⟩ := List.pairwise_append.mp hp
  have nd : (L ++ [c]).Nodup := List.Pairwise.imp (fun {a b} hab e => by rw [e, divB_refl] at hab; cases hab) h
  have hc : c ∉ L := fun z => by
    have := h3 _ z _ (List.mem_singleton.mpr rfl)
    rw [divB_refl] at this
    cases this
  rw [mo_new nd, ev_app]
  have e1 : evT (chi b) [(c, moN (moZ L) c)] = moN (moZ L) c * chi b c := by simp [evT]
  rw [e1]
  have hlen : (moZ L).length = L.length := by
    have := congrArg List.length (keys_mo L (List.nodup_append.mp nd).1)
    rw [← this]
    exact (List.length_map ..).symm
  rcases List.mem_append.mp hb with hb | hb
  · have z : chi b c = 0 := if_neg fun z => by
      have := h3 _ hb _ (List.mem_singleton.mpr rfl)
      rw [z] at this
      cases this
    rw [z, Int.mul_zero, Int.add_zero, ih h1 b hb]
    cases L with
    | nil => cases hb
    | cons x L => rfl
  · rw [List.mem_singleton.mp hb, chi_self, Int.mul_one]
    unfold moN
    cases L with
    | nil =>
      simp [moZ, evT]
    | cons x L =>
      rw [if_neg (by rw [hlen]; simp), if_neg]
      · omega
      · intro e
        have : x = c := Option.some.inj e
        exact hc (this ▸ List.mem_cons_self)
/-- the least common multiples as they are listed: by degree -/
structure Listed (n : Nat) (G L : List (List Int)) : Prop where
  perm : L.Perm (mulF n G)
  asc : L.Pairwise fun a b => a.sum ≤ b.sum
theorem nodup_mulF (n : Nat) (G : List (List Int)) : (mulF n G).Nodup := by
  rw [← keys_tab0]
  exact kn_tab n G
theorem sum_le_div {n : Nat} {a b : List Int} (ha : NN n a) (hb : NN n b) (h : divB a b = true) : a.sum ≤ b.sum ∧ (a.sum = b.sum → a = b) := by
  obtain ⟨c, hc, rfl⟩ := div_split ha hb h
  have := nn_sum hc
  rw [sum_mul (ha.1.trans hc.1.symm)]
  refine ⟨by omega, fun e => ?_⟩
  have e2 : c.sum = 0 := by omega
  have hz : c = List.replicate n 0 := by
    clear h ha hb e this
    obtain ⟨h1, h2⟩ := hc
    subst h1
    induction c with
    | nil => rfl
    | cons x c ih =>
      have h3 := h2 x List.mem_cons_self
      have h4 := nn_sum (n := c.length) (a := c) ⟨rfl, fun y hy => h2 y (List.mem_cons_of_mem _ hy)⟩
      rw [List.sum_cons] at e2
      have e3 : c.sum = 0 := by omega
      have e4 : x = 0 := by omega
      rw [List.length_cons, List.replicate_succ, ← ih e3 fun y hy => h2 y (List.mem_cons_of_mem _ hy), e4]
  rw [hz]
  refine (gd_ext ha.1 (lenMul ha.1 (List.length_replicate ..))).mpr fun j hj => ?_
  unfold mulL
  rw [gd_zw ha.1 (List.length_replicate ..) hj, gd_rep hj, Int.add_zero]
section
variable {n : Nat} {G L : List (List Int)}
theorem Listed.nodup (h : Listed n G L) : L.Nodup := h.perm.nodup_iff.mpr (nodup_mulF n G)
theorem Listed.nn (h : Listed n G L) (hG : NNs n G) : NNs n L := fun x hx => nn_mulF hG x (h.perm.mem_iff.mp hx)
theorem Listed.top (h : Listed n G L) (hG : NNs n G) : L.Pairwise fun a b => divB b a = false := by
  have nn := h.nn hG
  have nd := h.nodup
  have asc := h.asc
  clear h
  refine List.Pairwise.imp_of_mem (fun {a b} ha hb hab => ?_) (nd.and asc)
  cases e : divB b a with
  | false => rfl
  | true =>
    have := sum_le_div (nn b hb) (nn a ha) e
    exact absurd (this.2 (by have := hab.2; omega)).symm hab.1
theorem Listed.head (h : Listed n G L) (hG : NNs n G) : L.head? = some (List.replicate n 0) := by
  have hz : List.replicate n 0 ∈ L := h.perm.mem_iff.mpr zero_mulF
  have tp := h.top hG
  have nn := h.nn hG
  cases L with
  | nil => cases hz
  | cons x L =>
    rcases List.mem_cons.mp hz with e | e
    · rw [e]; rfl
    · have := (List.pairwise_cons.mp tp).1 _ e
      rw [zero_div (nn x List.mem_cons_self)] at this
      cases this
theorem mo_num (h : Listed n G L) (hG : NNs n G) (h1 : List.replicate n 0 ∉ G) : canZ (moZ L) = numL n G := by
  have kn : KN (moZ L) := by
    show (keysZ _).Nodup
    rw [keys_mo L h.nodup]
    exact h.nodup
  have ky : ∀ p ∈ moZ L, p.1 ∈ L := fun p hp => by
    rw [← keys_mo L h.nodup]
    exact List.mem_map.mpr ⟨p, hp, rfl⟩
  refine num_eq hG (canon_canZ kn fun p hp => h.nn hG _ (ky p hp)) fun b hb => ?_
  rw [ev_canZ]
  -- the greatest common multiple below b
  have hsub : (G.filter fun g => divB g b).Sublist G := List.filter_sublist
  have hc : lcmF n (G.filter fun g => divB g b) ∈ mulF n G := mem_mulF.mpr ⟨_, hsub, rfl⟩
  have key : ∀ (S : List (List Int)) (z c : List Int), NNs n S → NN n z → NN n c → (divB (S.foldl lcmL z) c = true ↔ divB z c = true ∧ ∀ s ∈ S, divB s c = true) := by
    intro S
    induction S with
    | nil => exact fun z c _ _ _ => ⟨fun h => ⟨h, fun s hs => nomatch hs⟩, fun h => h.1⟩
    | cons s S ih =>
      intro z c hS hz hc
      have hs := hS s List.mem_cons_self
      rw [List.foldl_cons, ih _ _ (fun x hx => hS x (List.mem_cons_of_mem _ hx)) (nn_lcm hz hs) hc, div_lcm_iff hz.1 hs.1 hc.1, List.forall_mem_cons, and_assoc]
  have key2 : ∀ (S : List (List Int)) (c : List Int), NNs n S → NN n c → (divB (lcmF n S) c = true ↔ ∀ s ∈ S, divB s c = true) := fun S c hS hc => by
    have := key S (List.replicate n 0) c hS nn_zero hc
    rw [this]
    exact ⟨fun h => h.2, fun h => ⟨zero_div hc, h⟩⟩
  have hcn := nn_mulF hG _ hc
  have hfn : NNs n (G.filter fun g => divB g b) := fun x hx => hG x (List.mem_filter.mp hx).1
  have hcb : divB (lcmF n (G.filter fun g => divB g b)) b = true := (key2 _ b hfn hb).mpr fun s hs => (List.mem_filter.mp hs).2
  have hself : ∀ g ∈ G, divB g b = true → divB g (lcmF n (G.filter fun g => divB g b)) = true := fun g hg hd =>
    (key2 _ _ hfn hcn).mp (divB_refl _) g (List.mem_filter.mpr ⟨hg, hd⟩)
  generalize lcmF n (G.filter fun g => divB g b) = c at hc hcn hcb hself
  have e1 : evT (chi b) (moZ L) = evT (chi c) (moZ L) := ev_cong fun p hp => by
    have hm := h.perm.mem_iff.mp (ky p hp)
    obtain ⟨S, hS, e⟩ := mem_mulF.mp hm
    have nS : NNs n S := fun x hx => hG x (hS.subset hx)
    have : divB p.1 b = divB p.1 c := by
      rw [Bool.eq_iff_iff, e, key2 S b nS hb, key2 S c nS hcn]
      exact ⟨fun h s hs => hself s (hS.subset hs) (h s hs), fun h s hs => divB_trans (hG s (hS.subset hs)).1 hcn.1 hb.1 (h s hs) hcb⟩
    unfold chi
    rw [this]
  have e2 : chiI G b = chiI G c := by
    unfold chiI inL
    have : (G.any fun g => divB g b) = G.any fun g => divB g c := by
      rw [Bool.eq_iff_iff, List.any_eq_true, List.any_eq_true]
      exact ⟨fun ⟨g, hg, hd⟩ => ⟨g, hg, hself g hg hd⟩, fun ⟨g, hg, hd⟩ => ⟨g, hg, divB_trans (hG g hg).1 hcn.1 hb.1 hd hcb⟩⟩
    rw [this]
  rw [e1, e2, ev_mo L (h.top hG) c (h.perm.mem_iff.mpr hc), h.head hG]
  have zdiv : ∀ g ∈ G, divB g (List.replicate n 0) ≠ true := fun g hg hd => h1 (by rw [← divB_anti (hG g hg).1 nn_zero.1 hd (zero_div (hG g hg))]; exact hg)
  unfold chiI
  by_cases hz : List.replicate n 0 = c
  · rw [if_pos (by rw [hz]), if_neg]
    intro z
    obtain ⟨g, hg, hd⟩ := List.any_eq_true.mp z
    rw [← hz] at hd
    exact zdiv g hg hd
  · rw [if_neg fun z => hz (Option.some.inj z), if_pos]
    obtain ⟨S, hS, e⟩ := mem_mulF.mp hc
    cases S with
    | nil => exact absurd e.symm hz
    | cons s S =>
      have hs := hS.subset (List.mem_cons_self (a := s) (l := S))
      refine List.any_eq_true.mpr ⟨s, hs, ?_⟩
      have := (key2 (s :: S) c (fun x hx => hG x (hS.subset hx)) hcn).mp (by rw [← e]; exact divB_refl c)
      exact this s List.mem_cons_self
end
theorem num_whole (n : Nat) : numL n [List.replicate n 0] = [] := by
  refine (num_eq (P := []) (fun g hg => by rw [List.mem_singleton.mp hg]; exact nn_zero) ⟨List.Pairwise.nil, fun p hp => (nomatch hp), fun p hp => nomatch hp⟩ fun b hb => ?_).symm
  unfold chiI
  rw [if_pos (show inL [List.replicate n 0] b = true from List.any_eq_true.mpr ⟨_, List.mem_singleton.mpr rfl, zero_div hb⟩)]
  rfl
/-- those of a sorted table that are not 0 -/
theorem can_filter {n : Nat} {T : Tab} (h : KN T) (hn : ∀ p ∈ T, NN n p.1) : (sortP T).filter (fun p => decide (p.2 ≠ 0)) = canZ T := by
  refine canon_uniq (n := n) ⟨?_, fun p hp => hn p (mem_sortP.mp (List.mem_filter.mp hp).1), fun p hp => of_decide_eq_true (List.mem_filter.mp hp).2⟩ (canon_canZ h hn) fun b hb => ?_
  · exact (ris_sortP h).sublist (List.filter_sublist.map _)
  · rw [ev_filter, ev_sortP, ev_canZ]
theorem sortS_perm (L : List (List Int)) : (sortS L).Perm L := by
  unfold sortS
  refine ((List.mergeSort_perm (L.map fun a => (a.sum, a)) SKy.leS).map (·.2)).trans ?_
  rw [List.map_map]
  have : ((fun x : Int × List Int => x.2) ∘ fun a : List Int => (a.sum, a)) = id := rfl
  rw [this, List.map_id]
theorem sortS_asc (L : List (List Int)) : (sortS L).Pairwise fun a b => a.sum ≤ b.sum := by
  unfold sortS
  refine List.pairwise_map.mpr ?_
  refine List.Pairwise.imp_of_mem (fun {a b} ha hb hab => ?_) (SKy.stab (L.map fun a => (a.sum, a))).1
  obtain ⟨x, _, rfl⟩ := List.mem_map.mp ((List.mergeSort_perm _ _).mem_iff.mp ha)
  obtain ⟨y, _, rfl⟩ := List.mem_map.mp ((List.mergeSort_perm _ _).mem_iff.mp hb)
  exact hab
/-- the least common multiples by degree and then ascending -/
def mulD (n : Nat) (G : List (List Int)) : List (List Int) := sortS (sortU (mulF n G))
theorem perm_sortU {K : List (List Int)} (h : K.Nodup) : (sortU K).Perm K := (List.perm_ext_iff_of_nodup (ris_nodup (ris_sortU K)) h).mpr fun a => mem_sortU
theorem listed_mulD (n : Nat) (G : List (List Int)) : Listed n G (mulD n G) := ⟨(sortS_perm _).trans (perm_sortU (nodup_mulF n G)), sortS_asc _⟩
/-- the numbers told -/
def sgL (n : Nat) (G : List (List Int)) : Tab := if G = [List.replicate n 0] then [] else sortP (moZ (mulD n G))
theorem sg_num {n : Nat} {G : List (List Int)} (hG : NNs n G) (anti : ∀ a ∈ G, ∀ b ∈ G, divB a b = true → a = b) (nd : G.Nodup) : (sgL n G).filter (fun p => decide (p.2 ≠ 0)) = numL n G := by
  unfold sgL
  split
  · rename_i e
    rw [e, num_whole]
    rfl
  · rename_i e
    have h := listed_mulD n G
    have nz : List.replicate n 0 ∉ G := fun z => e (by
      cases G with
      | nil => cases z
      | cons g G =>
        have all : ∀ x ∈ g :: G, x = List.replicate n 0 := fun x hx => (anti _ z _ hx (zero_div (hG x hx))).symm
        cases G with
        | nil => rw [all g List.mem_cons_self]
        | cons k G =>
          have := (List.nodup_cons.mp nd).1
          rw [all g List.mem_cons_self, all k (List.mem_cons_of_mem _ List.mem_cons_self)] at this
          exact absurd List.mem_cons_self this)
    rw [can_filter (n := n), mo_num h hG nz]
    · show (keysZ _).Nodup
      rw [keys_mo _ h.nodup]
      exact h.nodup
    · intro p hp
      refine h.nn hG _ ?_
      have := keys_mo _ h.nodup
      rw [← this]
      exact List.mem_map.mpr ⟨p, hp, rfl⟩
def addZ (T : Tab) (p : List Int × Int) : Tab := putZ T p.1 (getZ T p.1 + p.2)
theorem ev_adds (f : List Int → Int) : ∀ (ps T : Tab), KN T → evT f (ps.foldl addZ T) = evT f T + evT f ps ∧ KN (ps.foldl addZ T)
  | [], T, h => ⟨by rw [List.foldl_nil, evT, Int.add_zero], h⟩
  | p :: ps, T, h => by
    obtain ⟨h1, h2⟩ := ev_adds f ps (addZ T p) (kn_put h _ _)
    refine ⟨?_, h2⟩
    rw [List.foldl_cons, h1, evT]
    unfold addZ
    rw [ev_put f h]
    have : (getZ T p.1 + p.2 - getZ T p.1) * f p.1 = p.2 * f p.1 := by
      congr 1
      omega
    rw [this]
    omega
theorem keys_adds : ∀ (ps T : Tab), keysZ (ps.foldl addZ T) = (ps.map fun p => p.1).foldl addA (keysZ T)
  | [], T => rfl
  | p :: ps, T => by
    rw [List.foldl_cons, keys_adds ps, List.map_cons, List.foldl_cons]
    unfold addZ
    rw [keys_put]
def splS (g : List Int) (T : Tab) (p : List Int × Int) : Tab := putZ T (mulL p.1 g) (getZ T (mulL p.1 g) - p.2)
theorem ev_spl (f : List Int → Int) (g : List Int) : ∀ (ps T : Tab), KN T → evT f (ps.foldl (splS g) T) = evT f T - evT (fun a => f (mulL a g)) ps ∧ KN (ps.foldl (splS g) T)
  | [], T, h => ⟨by rw [List.foldl_nil, evT, Int.sub_zero], h⟩
  | p :: ps, T, h => by
    obtain ⟨h1, h2⟩ := ev_spl f g ps (splS g T p) (kn_put h _ _)
    refine ⟨?_, h2⟩
    rw [List.foldl_cons, h1, evT]
    unfold splS
    rw [ev_put f h]
    have : (getZ T (mulL p.1 g) - p.2 - getZ T (mulL p.1 g)) * f (mulL p.1 g) = - (p.2 * f (mulL p.1 g)) := by
      rw [← Int.neg_mul]
      congr 1
      omega
    rw [this]
    omega
theorem keys_spl (g : List Int) : ∀ (ps T : Tab), keysZ (ps.foldl (splS g) T) = (ps.map fun p => mulL p.1 g).foldl addA (keysZ T)
  | [], T => rfl
  | p :: ps, T => by
    rw [List.foldl_cons, keys_spl g ps, List.map_cons, List.foldl_cons]
    unfold splS
    rw [keys_put]
/-- a table that holds the numerator -/
structure NumT (n : Nat) (G : List (List Int)) (T : Tab) : Prop where
  kn : KN T
  nn : ∀ p ∈ T, NN n p.1
  len : T.length ≤ 2 ^ G.length
  ev : ∀ b, NN n b → evT (chi b) T = chiI G b
theorem numT_nil (n : Nat) : NumT n [] [(List.replicate n 0, 1)] := ⟨kn_one n, fun p hp => by rw [List.mem_singleton.mp hp]; exact nn_zero, Nat.le_refl _, fun b hb => by
  show 1 * chi b (List.replicate n 0) + 0 = 1
  unfold chi
  rw [if_pos (zero_div hb)]
  rfl⟩
theorem NumT.can {n : Nat} {G : List (List Int)} {T : Tab} (h : NumT n G T) (hG : NNs n G) : canZ T = numL n G := num_eq hG (canon_canZ h.kn h.nn) fun b hb => by rw [ev_canZ, h.ev b hb]
theorem chi_mul {n : Nat} {a g c : List Int} (ha : NN n a) (hg : NN n g) (hc : NN n c) : chi (mulL c g) (mulL a g) = chi c a := by
  unfold chi
  have : divB (mulL a g) (mulL c g) = divB a c := by
    rw [Bool.eq_iff_iff, divB_iff (lenMul ha.1 hg.1) (lenMul hc.1 hg.1), divB_iff ha.1 hc.1]
    refine forall_congr' fun j => forall_congr' fun hj => ?_
    unfold mulL
    rw [gd_zw ha.1 hg.1 hj, gd_zw hc.1 hg.1 hj]
    omega
  rw [this]
/-- the ideal of the rest, told by membership -/
theorem chi_last {n : Nat} {G : List (List Int)} {g b : List Int} (hG : NNs n G) (hg : NN n g) (hb : NN n b) {T : Tab} (hT : ∀ p ∈ T, NN n p.1) (ev : ∀ c, NN n c → evT (chi c) T = chiI (minL (cutS G g)) c) :
    chiI G b - evT (fun a => chi b (mulL a g)) T = chiI (G ++ [g]) b := by
  by_cases h : divB g b = true
  · obtain ⟨c, hc, rfl⟩ := div_split hg hb h
    rw [mul_comm hg.1 hc.1]
    rw [ev_cong (g := chi c) fun p hp => chi_mul (hT p hp) hg hc, ev c hc]
    have h1 := in_colon_by (A := G) (f := g) (c := c) hG.len hg.1 hc
    have h2 : chiI (minL (cutS G g)) c = chiI G (mulL c g) := by
      unfold chiI
      have : inL (minL (cutS G g)) c = inL G (mulL c g) := by rw [Bool.eq_iff_iff]; exact h1
      rw [this]
    rw [h2]
    unfold chiI
    rw [inL_snoc, if_pos (c := (inL G (mulL c g) || divB g (mulL c g)) = true)]
    · omega
    · rw [Bool.or_eq_true]
      right
      rw [mul_comm hc.1 hg.1]
      exact h
  · have : evT (fun a => chi b (mulL a g)) T = 0 := by
      rw [ev_cong (g := fun _ => 0), ev_zero]
      intro p hp
      refine if_neg fun z => h ?_
      have hp := hT p hp
      refine (divB_iff hg.1 hb.1).mpr fun j hj => ?_
      have h1 := (divB_iff (lenMul hp.1 hg.1) hb.1).mp z j hj
      unfold mulL at h1
      rw [gd_zw hp.1 hg.1 hj] at h1
      have h2 := hp.at hj
      omega
    rw [this]
    unfold chiI
    rw [inL_snoc]
    have hf : divB g b = false := by
      cases e : divB g b with
      | false => rfl
      | true => exact absurd e h
    rw [hf, Bool.or_false]
    omega
theorem numT_step {n : Nat} {G : List (List Int)} {g : List Int} (hG : NNs n G) (hg : NN n g) {T T' : Tab} (h : NumT n G T) (h' : NumT n (minL (cutS G g)) T') : NumT n (G ++ [g]) (T'.foldl (splS g) T) := by
  have e := fun f => ev_spl f g T' T h.kn
  refine ⟨(e fun _ => 0).2, fun p hp => ?_, ?_, fun b hb => ?_⟩
  · have hk : p.1 ∈ keysZ (T'.foldl (splS g) T) := List.mem_map.mpr ⟨p, hp, rfl⟩
    rw [keys_spl] at hk
    rcases mem_addAs.mp hk with hk | hk
    · obtain ⟨q, hq, e⟩ := List.mem_map.mp hk
      rw [← e]
      exact h.nn q hq
    · obtain ⟨q, hq, e⟩ := List.mem_map.mp hk
      rw [← e]
      exact nn_mul (h'.nn q hq) hg
  · have e1 : (T'.foldl (splS g) T).length = (keysZ (T'.foldl (splS g) T)).length := (List.length_map ..).symm
    rw [e1, keys_spl]
    refine Nat.le_trans (len_addAs _ _) ?_
    rw [List.length_map, List.length_map, List.length_append]
    have h1 := h.len
    have h2 := h'.len
    have h3 : 2 ^ (minL (cutS G g)).length ≤ 2 ^ G.length := Nat.pow_le_pow_right (by decide) (by
      have := min_len (cutS G g)
      unfold cutS at this ⊢
      rw [List.length_map] at this
      exact this)
    show T.length + T'.length ≤ 2 ^ (G.length + 1)
    rw [Nat.pow_succ]
    omega
  · rw [(e (chi b)).1, h.ev b hb]
    exact chi_last hG hg hb h'.nn h'.ev
end UC
end
section
set_option Elab.async false
set_option linter.all false
set_option maxRecDepth 100000
set_option maxHeartbeats 4000000
namespace CpComb
open PySem PySem.Spec
open Sem (wp)
end CpComb
end
section
set_option Elab.async false
set_option linter.all false
set_option maxRecDepth 100000
set_option maxHeartbeats 4000000
namespace CpComb
open PySem PySem.Spec CpRep
open Sem (wp)
end CpComb
end
section
set_option Elab.async false
set_option linter.all false
set_option maxRecDepth 100000
set_option maxHeartbeats 4000000
namespace CpComb
open PySem
end CpComb
end
section
set_option Elab.async false
set_option linter.all false
set_option maxRecDepth 100000
set_option maxHeartbeats 4000000
namespace L2
open PySem PySem.Spec PyProof.Rows CpComb
end L2
end
section
set_option Elab.async false
set_option linter.all false
set_option maxRecDepth 100000
set_option maxHeartbeats 4000000
namespace L2
open PySem PySem.Spec PyProof.Rows CpComb
end L2
end
section
set_option Elab.async false
set_option linter.all false
set_option maxRecDepth 100000
set_option maxHeartbeats 4000000
namespace L2
open PySem PySem.Spec PyProof.Rows CpComb
end L2
end
section
set_option Elab.async false
set_option linter.all false
set_option maxRecDepth 100000
set_option maxHeartbeats 4000000
namespace DL
open PySem PySem.Spec L2 PyProof.Rows CpComb
end DL
end
section
set_option Elab.async false
set_option linter.all false
set_option maxRecDepth 100000
set_option maxHeartbeats 4000000
namespace CpComb
open PySem PySem.Spec PyProof.Rows L2
abbrev tupO (ws : List Value) : Obj := { cls := .type "tuple", data := .seq ws.toArray }
section
variable {prog : Program} {w : World} {A : Around} {E : Value → Shared → Prop} {s : Shared} {it P : Addr} {us : List Value} {r i : Nat}
/-- the tuples that stand in the list so far -/
structure Got (h : Heap) (n0 : Nat) (S it : Addr) (Ts : List Addr) (L : List (List Value)) : Prop where
  len : Ts.length ≤ L.length
  at' : ∀ (j : Nat) T ws, Ts[j]? = some T → L[j]? = some ws → h.get? T = some (tupO ws)
  nd : Ts.Nodup
  ne : ∀ T ∈ Ts, T ≠ S ∧ T ≠ it ∧ n0 ≤ T ∧ T < h.objs.size
end
end CpComb
end
section
set_option Elab.async false
set_option linter.all false
set_option maxRecDepth 100000
set_option maxHeartbeats 400000
namespace CpComb
open PySem PySem.Spec PyProof.Rows L2
end CpComb
end
section
set_option Elab.async false
set_option linter.all false
set_option maxRecDepth 100000
set_option maxHeartbeats 4000000
namespace L2
open PySem PySem.Spec PyProof.Rows CpComb
section
variable {X : Cx} {pins : List (Addr × Obj)} {σ : St} {H : Hp} {s : Shared} {h' : Heap}
theorem Inv.more {H' : Hp} {t' : Nat} (I : Inv X pins σ H s) (k : ∀ b o, s.heap.get? b = some o → h'.get? b = some o) (eq : ∀ b o, s.heap.get? b = some o → H' b = H b) (hok : HOk X.prog X.w H' h') : Inv X pins σ H' { s with heap := h', toks := t' } := by
  have there : ∀ b u, H b = some u → ∃ o, s.heap.get? b = some o := fun b u e => objOk_get (I.hok b u e)
  refine I.un ⟨fun b ob q _ _ _ => k b ob q, fun b ob q _ _ _ => ⟨ob.slots, k b ob q⟩, fun b ob q n _ => by rw [eq b ob q]; exact n, fun b ob q _ => ⟨ob, k b ob q⟩, fun b xs q => ?_, fun b o u q => ?_, fun b ps q => ⟨#[], ?_⟩⟩ hok
  · obtain ⟨o, e⟩ := there b _ q
    rw [eq b o e]; exact q
  · obtain ⟨o', e⟩ := there b _ q
    rw [eq b o' e]; exact q
  · obtain ⟨o', e⟩ := there b _ q
    rw [eq b o' e, q]; simp
end
end L2
end
section
set_option Elab.async false
set_option linter.all false
set_option maxRecDepth 100000
set_option maxHeartbeats 4000000
namespace DL
open PySem PySem.Spec L2 PyProof.Rows CpComb
end DL
end
section
set_option Elab.async false
set_option linter.all false
set_option maxRecDepth 100000
set_option maxHeartbeats 2000000
namespace DL
open PySem PySem.Spec L2 PyProof.Rows
end DL
end
section
set_option Elab.async false
set_option linter.all false
set_option maxRecDepth 100000
set_option maxHeartbeats 2000000
namespace DL
open PySem PySem.Spec L2 PyProof.Rows
end DL
end
section
set_option Elab.async false
set_option linter.all false
set_option maxRecDepth 100000
set_option maxHeartbeats 4000000
namespace EX
open PySem PySem.Spec PySem.W PySem.Calls PyProof.Rows L2
end EX
end
section
set_option Elab.async false
set_option linter.all false
set_option maxRecDepth 100000
set_option maxHeartbeats 4000000
namespace DL
open PySem PySem.Spec L2 PyProof.Rows EX
variable [tB : Tb]
/-- of a call's exception: its class's name, its fields (the last one first), the store -/
abbrev XWc := Str → List (Str × DV) → Sto → Prop
def Fresh (H : Hp) (st : Sto) (dd : Addr) : Prop := H dd = none ∨ st dd ≠ none ∨ ∃ ps, H dd = some (.tbl ps)
theorem Fresh.back {F H F' H' : Hp} {st st' : Sto} {dd : Addr} (s : Step F H st F' H' st') (f : Fresh H' st' dd) : Fresh H st dd := by
  cases e : H dd with
  | none => exact .inl e
  | some u =>
    rcases tb_or u with ⟨ps, rfl⟩ | nt
    · exact .inr (.inr ⟨ps, e⟩)
    cases e2 : st dd with
    | some m => exact .inr (.inl (by rw [e2]; exact fun z => (nomatch z)))
    | none =>
      obtain ⟨h1, h2⟩ := s.pres dd u e nt e2
      rcases f with z | z | ⟨ps, z⟩
      · rw [h1] at z; cases z
      · exact absurd h2 z
      · rw [h1] at z; cases z; exact absurd rfl (nt ps)
abbrev PX (K : PySem.W.Frag) (F : Hp) (ws : List (Str × V)) (kvs : List (Str × DV)) : Prop := Paired (fun p q => p.1 = q.1 ∧ RV K F p.2 q.2) ws kvs
/-- the error classes without an own __init__: their errors have no dict -/
def bareN (x : Str) : Bool := decide (x ∈ (["NotComplex", "NotSquarefree", "NotCycle", "NotStable", "NotGraph", "NotTwo", "NotProper", "NothingLeft"] : List Str))
structure KX (K : PySem.W.Frag) (mg : Str → Option Value) (F H : Hp) (st : Sto) (W : XWc) (E : XK) : Prop where
  k : ∀ (F' H' : Hp) (st' : Sto) (x : Str) (C dd : Addr) (ws : List (Str × V)) (kvs : List (Str × DV)), Step F H st F' H' st' → Rs0 K F' H' st' → mg x = some (.ref C) → H' dd = some (.xd ws) → PX K F' ws kvs → Fresh H st dd → st' dd = none → F' dd = none → W x kvs st' → E (.ref C) (some dd) H'
  z : ∀ (F' H' : Hp) (st' : Sto) (x : Str) (C : Addr), Step F H st F' H' st' → Rs0 K F' H' st' → mg x = some (.ref C) → bareN x = true → W x [] st' → E (.ref C) none H'
theorem KX.step {K : PySem.W.Frag} {mg : Str → Option Value} {F H F1 H1 : Hp} {st st1 : Sto} {W : XWc} {E : XK} (k : KX K mg F H st W E) (s : Step F H st F1 H1 st1) : KX K mg F1 H1 st1 W E :=
  ⟨fun F' H' st' x C dd ws kvs t R hm hd pr fr sd fd w => k.k F' H' st' x C dd ws kvs (s.trans t) R hm hd pr (fr.back s) sd fd w, fun F' H' st' x C t R hm hb w => k.z F' H' st' x C (s.trans t) R hm hb w⟩
end DL
end
section
set_option Elab.async false
set_option linter.all false
set_option maxRecDepth 100000
set_option maxHeartbeats 4000000
namespace DL
open PySem PySem.Spec L2 PyProof.Rows EX
end DL
end
section
set_option Elab.async false
set_option linter.all false
set_option maxRecDepth 100000
set_option maxHeartbeats 4000000
namespace DL
open PySem PySem.Spec L2 PyProof.Rows EX
/-- what the written part says of an error class, for isinstance and for its fields -/
structure ExI (K : PySem.W.Frag) (C : Addr) : Prop where
  cl : (PySem.W.clsIn K C).isSome = true
  ga : PySem.W.findIn K (.ref C) "__getattribute__" = some (some (.builtin "BaseException.__getattribute__"))
  gt : PySem.W.findIn K (.ref C) "__getattr__" = some none
  sb : PySem.W.subIn K (.ref C) (.type "BaseException") = some true
  hd : PySem.W.hasDictIn K C = true
  ty : PySem.W.typeIn K (.ref C) = some (.type "type")
  ca : PySem.W.findIn K (.ref C) "__class__" = some (some (.builtin "object.__class__"))
  ob : PySem.W.mroIn K C (.type "object") = some true
structure ExG (K : PySem.W.Frag) : Prop where
  gs : PySem.W.specialIn K (.builtin "object.__class__") "__get__" = some (some (.builtin "getset_descriptor.__get__"))
  tk : PySem.W.takesIn K (.builtin "object.__class__") = some true
end DL
end
section
set_option Elab.async false
set_option linter.all false
set_option maxRecDepth 100000
set_option maxHeartbeats 4000000
namespace DL
open PySem PySem.Spec PySem.W L2 PyProof.Rows EX
variable [tB : Tb]
section
variable {P : Program} {w : World} {K : PySem.W.Frag} {mg : Str → Option Value} {base : Heap}
/-- the error classes of a text -/
structure ErrC (K : PySem.W.Frag) (mg : Str → Option Value) (flds : List Str) (x : Str) (C : Addr) : Prop where
  m : mg x = some (.ref C)
  ei : ExI K C
  nof : ∀ f ∈ flds, findIn K (.ref C) f = some none
structure Errs (K : PySem.W.Frag) (mg : Str → Option Value) (flds : List Str) (base' : Str) (L : List (Str × Addr)) : Prop where
  cls : ∀ p ∈ L, ErrC K mg flds p.1 p.2
  sub : ∀ p ∈ L, ∀ q ∈ L, subIn K (.ref p.2) (.ref q.2) = some (p.1 == q.1)
  bs : ∃ Cn, mg base' = some (.ref Cn) ∧ ExI K Cn ∧ ∀ p ∈ L, subIn K (.ref p.2) (.ref Cn) = some true
  glob : ExG K
variable {flds : List Str} {base' : Str} {L : List (Str × Addr)}
theorem Errs.one (E : Errs K mg flds base' L) {x : Str} {C : Addr} (hx : x ∈ L.map (·.1)) (hm : mg x = some (.ref C)) : (x, C) ∈ L := by
  obtain ⟨p, hp, rfl⟩ := List.mem_map.mp hx
  have z := (E.cls p hp).m
  rw [hm] at z
  cases z
  exact hp
end
end DL
namespace DL
open PySem PySem.Spec PySem.W L2 PyProof.Rows EX
end DL
end
section
set_option Elab.async false
set_option linter.all false
set_option maxRecDepth 100000
set_option maxHeartbeats 4000000
namespace DL
open PySem PySem.Spec L2 PyProof.Rows EX
end DL
end
section
set_option Elab.async false
set_option linter.all false
set_option maxRecDepth 100000
set_option maxHeartbeats 4000000
namespace DL
open PySem PySem.Spec L2 PyProof.Rows EX
variable [tB : Tb]
theorem mok_code {K : PySem.W.Frag} {F G : Hp} {c : Addr} {q : Str} {m : MO} (h : MOk K F G c m) (e : G c = some (LamX.CodeO c q)) : False := by
  unfold LamX.CodeO at e
  cases m with
  | lst _ => obtain ⟨_, h, _⟩ := h; rw [e] at h; cases h
  | dK _ => obtain ⟨_, h, _⟩ := h; rw [e] at h; cases h
  | dT _ => obtain ⟨_, h, _⟩ := h; rw [e] at h; cases h
  | ins _ _ => obtain ⟨_, _, h, _⟩ := h; rw [e] at h; cases h
  | lk _ _ _ => obtain ⟨h, _⟩ := h; rw [e] at h; cases h
  | xd _ => obtain ⟨_, h, _⟩ := h; rw [e] at h; cases h
/-- the table at P has grown -/
theorem Rs0.grown {K : PySem.W.Frag} {F H G : Hp} {st : Sto} {P : Addr} {q : Str} (R : Rs0 K F H st) (hT : (P, q) ∈ tB.T) (hu : ∀ p ∈ tB.T, p.1 = P → p.2 = q) (e1 : ∀ b o, b ≠ P → H b = some o → G b = some o) (T1 : LamX.TabS G P q) :
    Rs0 K F G st ∧ Step F H st F G st := by
  obtain ⟨f0, s0, ps, hP, _, _⟩ := R.tb _ hT
  have f0 : F P = none := f0
  have s0 : st P = none := s0
  have hP : H P = some (.tbl ps) := hP
  have ok : ∀ a m, st a = some m → MOk K F G a m := fun a m h => by
    obtain ⟨o, e⟩ := (R.ok a m h).some
    exact MOk.mono (fun _ _ z => z) ((e1 a o (fun z => by rw [z, s0] at h; cases h) e).trans e.symm) (R.ok a m h)
  refine ⟨⟨fun a o h => ⟨e1 a o (fun z => by rw [z, f0] at h; cases h) (R.sub a o h).1, (R.sub a o h).2⟩, ok, fun p hp => ?_⟩,
    fun _ _ h => h, fun a o h nt n => ⟨e1 a o (fun z => by rw [z, hP] at h; cases h; exact nt _ rfl) h, n⟩, fun a o h => .inl (by rw [h]; exact fun z => (nomatch z))⟩
  by_cases hz : p.1 = P
  · rw [hu p hp hz, hz]
    obtain ⟨qs, h1, h2, h3⟩ := T1
    refine ⟨f0, s0, qs, h1, h2, fun pos cv hc => ?_⟩
    obtain ⟨c, z1, z2⟩ := h3 pos cv hc
    refine ⟨c, z1, z2, ?_⟩
    cases e : st c with
    | none => rfl
    | some m => exact (mok_code (ok c m e) z2).elim
  · obtain ⟨g0, g1, qs, h1, h2, h3⟩ := R.tb p hp
    refine ⟨g0, g1, qs, e1 _ _ hz h1, h2, fun pos cv hc => ?_⟩
    obtain ⟨c, z1, z2, z3⟩ := h3 pos cv hc
    exact ⟨c, z1, e1 _ _ (fun z => by rw [z, hP] at z2; exact LamX.codeO_ne _ (Option.some.inj z2).symm) z2, z3⟩
end DL
end
section
set_option Elab.async false
set_option linter.all false
set_option maxRecDepth 100000
set_option maxHeartbeats 4000000
namespace DL
open PySem PySem.Spec L2 PyProof.Rows EX
variable [tB : Tb]
section
variable [gR : Gr] {P : Program} {w : World} {K : PySem.W.Frag} {mg : Str → Option Value} {base : Heap} {X : Cx} {N : List Str} {sc fs : Scope} {k : Nat} {a C dd : Addr} {oe : Obj} {pn : List (Addr × Obj)}
theorem vals_refs : ∀ {Ds : List Addr} {us : List Value}, Vals (Ds.map V.ref) us → us = Ds.map Value.ref
  | [], _, .nil => rfl
  | _ :: _, _, .cons r t => by
    cases r
    rw [vals_refs t]
    rfl
end
section
variable {P : Program} {w : World} {K : PySem.W.Frag} {mg : Str → Option Value} {base : Heap}
/-- as Fun, with the code object -/
structure FunM (K : PySem.W.Frag) (x qual : Str) (st : Stmt) (f cc : Addr) (fd : FuncData) : Prop where
  ex : ∃ (oc : Value) (od : Option Addr) (kV doc pm : Value) (an : Option Addr) (ct : Value) (osl : Array (Option Value)),
    fd = PySem.W.fnOf x qual (defArgs st) (defBody st) (defScope st) .none kV doc pm an (.ref cc) ct ∧ K.lookup f = some ⟨oc, od, .func fd, osl⟩ ∧ PySem.W.codeIn K (.ref cc) qual = true
theorem FunM.fn {x qual : Str} {st : Stmt} {f cc : Addr} {fd : FuncData} (F : FunM K x qual st f cc fd) (kp : PySem.W.keepIn K (.ref f) = true) : Fun K x qual st f fd := by
  obtain ⟨oc, od, kV, doc, pm, an, ct, osl, h1, h2, h3⟩ := F.ex
  exact ⟨⟨oc, od, kV, doc, pm, an, .ref cc, ct, osl, h1, h2, h3⟩, kp⟩
end
end DL
end
section
set_option Elab.async false
set_option linter.all false
set_option maxRecDepth 100000
namespace RD
open PySem L2 DL
/-- count_by(n, row, degree) slots: 0=n 1=row 2=degree 3=total 4=shift 5=number -/
def rd_count_by : TDs :=
  (qSeq (qAsg (qc (.d (.int 0))) (qgN 3))
  (qSeq (qFor (qiEnum (qCons (qv 1) qNil)) (qgT 2 (qgCons (qgN 4) (qgCons (qgN 5) qgNil))) (qIfS (qTest (qOp qLe (qv 4) (qv 2))) (qAug 3 (qOp (qMul false) (qv 5) (qCB qComb (qCons (qOp qSub (qOp (qAdd false) (qOp qSub (qv 2) (qv 4)) (qv 0)) (qc (.d (.int 1)))) (qCons (qOp qSub (qv 0) (qc (.d (.int 1)))) qNil)))) (fun i j => i + j)) qNext))
  (qRet (qv 3))))
/-- as_pairs(table) slots: 0=table 1=one 2=number -/
def rd_as_pairs : TDs :=
  (qRet (qCB qTupleC (qCons (qSortD false (qLockE 0 (qLc false (qiItems (qv 0)) (qgT 2 (qgCons (qgN 1) (qgCons (qgN 2) qgNil))) (qTest (qOp qNe (qv 2) (qc (.d (.int 0))))) (qTup (qCons (qv 1) (qCons (qv 2) qNil))) [1, 2]))) qNil)))
/-- numerator(ideal) slots: 0=ideal 1=table 2=generator 3=one 4=number 5=multiple -/
def rd_numerator (sp_want_small : SpD) (sp_lcm_of : SpD) (sp_as_pairs : SpD) : TDs :=
  (qSeq (qDrop (qCall sp_want_small (qCons (qv 0) qNil)))
  (qSeq (qAsg (qDispT (qOp (qMul false) (qTup (qCons (qc (.d (.int 0))) qNil)) (qOp qIx (qv 0) (qc (.d (.int 0))))) (qc (.d (.int 1)))) (qgN 1))
  (qSeq (qFor (qiSeq (qOp qIx (qv 0) (qc (.d (.int 1))))) (qgN 2) (qFor (qiSeq (qListItems false (qv 1))) (qgT 2 (qgCons (qgN 3) (qgCons (qgN 4) qgNil))) (qSeq (qAsg (qCall sp_lcm_of (qCons (qv 3) (qCons (qv 2) qNil))) (qgN 5))
          (qDPut (qv 1) (qv 5) (qOp qSub (qGet (qv 1) (qv 5) (qc (.d (.int 0)))) (qv 4))))))
  (qRet (qCall sp_as_pairs (qCons (qv 1) qNil))))))
/-- graded_numerator(ideal) slots: 0=ideal 1=sums 2=one 3=number 4=row 5=degree -/
def rd_graded_numerator (sp_numerator : SpD) : TDs :=
  (qSeq (qAsg (qDNew false) (qgN 1))
  (qSeq (qFor (qiSeq (qCall sp_numerator (qCons (qv 0) qNil))) (qgT 2 (qgCons (qgN 2) (qgCons (qgN 3) qgNil))) (qDPut (qv 1) (qCB qSum (qCons (qv 2) qNil)) (qOp (qAdd false) (qGet (qv 1) (qCB qSum (qCons (qv 2) qNil)) (qc (.d (.int 0)))) (qv 3))))
  (qSeq (qAsg (qLc true (qiRng1 (qCons (qOp (qAdd false) (qMaxDf (qCB (qListDK false) (qCons (qv 1) qNil)) (qUn qNeg (qc (.d (.int 1))))) (qc (.d (.int 1)))) qNil)) (qgN 5) qYes (qGet (qv 1) (qv 5) (qc (.d (.int 0)))) [5]) (qgN 4))
  (qSeq (qWhile (qAndT (qTest (qOp qNe (qv 4) (qLst false qNil))) (qTest (qOp qEq (qOp qIx (qv 4) (qUn qNeg (qc (.d (.int 1))))) (qc (.d (.int 0)))))) (qDrop (qPop (qv 4))))
  (qRet (qCB qTupleC (qCons (qv 4) qNil)))))))
/-- count_left(ideal, degree) slots: 0=ideal 1=degree -/
def rd_count_left (sp_graded_numerator : SpD) (sp_count_by : SpD) : TDs :=
  (qRet (qCall sp_count_by (qCons (qOp qIx (qv 0) (qc (.d (.int 0)))) (qCons (qCall sp_graded_numerator (qCons (qv 0) qNil)) (qCons (qv 1) qNil)))))
end RD
end
section
set_option Elab.async false
set_option linter.all false
set_option maxRecDepth 100000
set_option maxHeartbeats 1000000
namespace UC
def ch : Nat → Nat → Nat
  | _, 0 => 1
  | 0, _ + 1 => 0
  | n + 1, k + 1 => ch n k + ch n (k + 1)
theorem ch_zero (n : Nat) : ch n 0 = 1 := by cases n <;> rfl
theorem ch_ss (n k : Nat) : ch (n + 1) (k + 1) = ch n k + ch n (k + 1) := rfl
theorem ch_above : ∀ {n k : Nat}, n < k → ch n k = 0
  | _, 0, h => by omega
  | 0, k + 1, _ => rfl
  | n + 1, k + 1, h => by rw [ch_ss, ch_above (show n < k by omega), ch_above (show n < k + 1 by omega)]
theorem ch_self : ∀ n : Nat, ch n n = 1
  | 0 => rfl
  | n + 1 => by rw [ch_ss, ch_self n, ch_above (Nat.lt_succ_self n)]
def fac : Nat → Nat
  | 0 => 1
  | n + 1 => (n + 1) * fac n
theorem fac_pos : ∀ n, 1 ≤ fac n
  | 0 => Nat.le_refl _
  | n + 1 => by
    have := fac_pos n
    unfold fac
    exact Nat.le_trans this (Nat.le_mul_of_pos_left _ (by omega))
def fp (n : Nat) : Nat → Nat
  | 0 => 1
  | k + 1 => fp n k * (n - k)
theorem fp_above {n : Nat} : ∀ {k : Nat}, n < k → fp n k = 0
  | 0, h => by omega
  | k + 1, h => by
    unfold fp
    by_cases e : n = k
    · subst e
      simp
    · rw [fp_above (show n < k by omega), Nat.zero_mul]
theorem fp_ss (n : Nat) : ∀ k : Nat, fp (n + 1) (k + 1) = (n + 1) * fp n k
  | 0 => by simp [fp]
  | k + 1 => by
    have e : n + 1 - (k + 1) = n - k := by omega
    rw [fp, fp_ss n k, fp, e, Nat.mul_assoc]
theorem ch_fp : ∀ n k : Nat, ch n k * fac k = fp n k
  | n, 0 => by rw [ch_zero]; rfl
  | 0, k + 1 => by rw [fp_above (Nat.zero_lt_succ k), ch, Nat.zero_mul]
  | n + 1, k + 1 => by
    have h1 := ch_fp n k
    have h2 := ch_fp n (k + 1)
    rw [fp_ss, ch_ss, Nat.add_mul, h2]
    have e1 : ch n k * fac (k + 1) = (k + 1) * fp n k := by
      rw [← h1, fac, Nat.mul_left_comm]
    rw [e1, fp]
    by_cases hk : k ≤ n
    · have : fp n k * (n - k) = (n - k) * fp n k := Nat.mul_comm _ _
      rw [this, ← Nat.add_mul, show k + 1 + (n - k) = n + 1 by omega]
    · rw [fp_above (show n < k by omega)]
      simp
theorem ch_sym : ∀ {n k : Nat}, k ≤ n → ch n k = ch n (n - k)
  | n, 0, _ => by rw [ch_zero, Nat.sub_zero, ch_self]
  | 0, k + 1, h => by omega
  | n + 1, k + 1, h => by
    by_cases e : k = n
    · subst e
      rw [ch_self, Nat.sub_self, ch_zero]
    · have e1 : n + 1 - (k + 1) = (n - (k + 1)) + 1 := by omega
      rw [e1, ch_ss, ch_ss, ch_sym (n := n) (k := k) (by omega), ch_sym (n := n) (k := k + 1) (by omega)]
      have e2 : n - (k + 1) + 1 = n - k := by omega
      rw [e2]
      omega
theorem fall_fp (n : Nat) : ∀ k : Nat, k ≤ n → PySem.Builtin.Math.fallingProduct (n : Int) k = (fp n k : Int)
  | 0, _ => rfl
  | k + 1, h => by
    rw [PySem.W.mc_fp_succ, fall_fp n k (by omega), fp, Int.natCast_mul]
    congr 1
    omega
theorem comb_ch (n k : Nat) : PySem.W.mcComb (n : Int) (k : Int) = (ch n k : Int) := by
  by_cases h : n < k
  · rw [PySem.W.mcComb_above (by omega), ch_above h]
    rfl
  · have hk : k ≤ n := by omega
    have key : ∀ m : Nat, m ≤ n → ch n k = ch n m → min (k : Int) ((n : Int) - k) = (m : Int) → PySem.W.mcComb (n : Int) (k : Int) = (ch n k : Int) := by
      intro m hm e1 e2
      rw [PySem.W.mcComb_at (by omega) (by omega) e2, Int.toNat_natCast, fall_fp n m hm, fall_fp m m (Nat.le_refl _), ← ch_fp, ← ch_fp, ch_self, Nat.one_mul, ← Int.natCast_ediv, e1, Nat.mul_div_cancel _ (fac_pos m)]
    by_cases h2 : k ≤ n - k
    · exact key k hk rfl (by omega)
    · exact key (n - k) (by omega) (ch_sym hk) (by omega)
end UC
end
section
set_option Elab.async false
set_option linter.all false
set_option maxRecDepth 100000
set_option maxHeartbeats 1000000
open PySem L2 DL RD UC
local macro_rules | `(tactic| walk_at "E") => `(tactic| (try simp only [qAsg, qRet, qDrop, qIfS, qTest, qAndT, qOrT, qNotT, qAndV, qOrV, qNotV, qIf, qOp, qUn, qChain, onB, qv, qc, qgN, qgT, qgCons, qgNil, qCons, qNil, qTup, qLst, qPar, qPar3, qAug, qCB, qCall, qLen, qTupleC, qListC, qMax2, qMin2, qIntC, qSum, qAny, qAll, qIsi, tyName, qAdd, qSub, qMul, qFdiv, qMod, qPow, qI2, qCmpI, qEq, qNe, qLt, qLe, qGt, qGe, qNeg, qIx, qDGet, qDIn, qDPut, qSl, qPart, qNoPart, qNext, qFor, qiSeq, qiRng1, qiRng2, qiZip, qiEnum, qLc, seqSrc, lsrc, titems, litems, sitems, fz, newL, List.getElem?_cons_zero, List.getElem?_cons_succ, List.set_cons_zero, List.set_cons_succ, if_true, if_false, Bool.false_eq_true, ite_true, ite_false, up_same, reduceIte, decide_true, decide_false, true_and, and_true]))
local macro_rules | `(tactic| walk_at "D") => `(tactic| (try simp only [qAsg, qRet, qDrop, qIfS, qTest, qAndT, qOrT, qNotT, qAndV, qOrV, qNotV, qIf, qOp, qUn, qChain, onB, qv, qc, qgN, qgT, qgCons, qgNil, qCons, qNil, qTup, qLst, qPar, qPar3, qAug, qCB, qCall, qLen, qTupleC, qListC, qMax2, qMin2, qIntC, qSum, qAny, qAll, qIsi, tyName, qAdd, qSub, qMul, qFdiv, qMod, qPow, qI2, qCmpI, qEq, qNe, qLt, qLe, qGt, qGe, qNeg, qIx, qDGet, qDIn, qDPut, qSl, qPart, qNoPart, qNext, qFor, qiSeq, qiRng1, qiRng2, qiZip, qiEnum, qLc, seqSrc, lsrc, titems, litems, sitems, fz, newL, List.getElem?_cons_zero, List.getElem?_cons_succ, List.set_cons_zero, List.set_cons_succ, if_true, if_false, Bool.false_eq_true, ite_true, ite_false, up_same, reduceIte, decide_true, decide_false, true_and, and_true, eqv_int, eqv_bool, eqv_TI, eqv_LI, eqv_TT, eqv_LT, eqv_nilL, eqv_nilT, shaped_TI, shaped_LI, shaped_TT, shaped_LT, shaped_int, shaped_bool, shaped_nilL, shaped_nilT, dints_map2, dbools_map2, datas_map, mkT_map, mkT_0, mkT_1, mkT_2, mkT_3, List.length_map, List.length_cons, List.length_nil, List.length_append, List.map_cons, List.map_nil, wipeD, Bool.not_true, Bool.not_false, eq_self, not_true_eq_false, not_false_eq_true, kitB_tt, kitB_ll, kitB_dd, kitB_bb, kitB_ib, kitB_ii, kitB_ss, kitB_tl, kitB_lt, Function.comp, datas, Option.map_some, List.cons_append, List.nil_append, CPow, le_size4, Int.toNat_natCast, rngD0, I_eq, Bo_eq, BS.qSortB, in_IT, in_IL, in_TT, in_TL, qNotN, qIsN, qSortD, qListRg, qDispT, keyX_TI, qGet, qiItems, qLockE, qLockS, qPop, qMaxDf, qLc2, qMax1, qMin1, qAppend, qExtend, tints_TI, dv_TI, Option.bind_some, qRetN, atI_0, atI_1, atI_2, mk_appT, mk_snocI, idl, rep_I, Option.map_none, eqv_idl, shaped_idl, Bool.and_self, Bool.true_and, Bool.and_true]))
local macro_rules | `(tactic| walk_at "F") => `(tactic| (try simp only [qAsg, qRet, qDrop, qIfS, qTest, qAndT, qOrT, qNotT, qAndV, qOrV, qNotV, qIf, qOp, qUn, qChain, onB, qv, qc, qgN, qgT, qgCons, qgNil, qCons, qNil, qTup, qLst, qPar, qPar3, qAug, qCB, qCall, qLen, qTupleC, qListC, qMax2, qMin2, qIntC, qSum, qAny, qAll, qIsi, tyName, qAdd, qSub, qMul, qFdiv, qMod, qPow, qI2, qCmpI, qEq, qNe, qLt, qLe, qGt, qGe, qNeg, qIx, qDGet, qDIn, qDPut, qSl, qPart, qNoPart, qNext, qFor, qiRng1, qiRng2, qiZip, qiEnum, qLc, fz, newL, List.getElem?_cons_zero, List.getElem?_cons_succ, List.set_cons_zero, List.set_cons_succ, if_true, if_false, Bool.false_eq_true, ite_true, ite_false, up_same, reduceIte, decide_true, decide_false, true_and, and_true, eqv_int, eqv_bool, eqv_TI, eqv_LI, eqv_TT, eqv_LT, eqv_nilL, eqv_nilT, shaped_TI, shaped_LI, shaped_TT, shaped_LT, shaped_int, shaped_bool, shaped_nilL, shaped_nilT, dints_map2, dbools_map2, datas_map, mkT_map, mkT_0, mkT_1, mkT_2, mkT_3, List.length_map, List.length_cons, List.length_nil, List.length_append, List.map_cons, List.map_nil, wipeD, Bool.not_true, Bool.not_false, eq_self, not_true_eq_false, not_false_eq_true, kitB_tt, kitB_ll, kitB_dd, kitB_bb, kitB_ib, kitB_ii, kitB_ss, kitB_tl, kitB_lt, Function.comp, datas, Option.map_some, List.cons_append, List.nil_append, CPow, le_size4, Int.toNat_natCast, rngD0, I_eq, Bo_eq, BS.qSortB, in_IT, in_IL, in_TT, in_TL, qNotN, qIsN, qSortD, qListRg, qDispT, keyX_TI, qGet, qiItems, qLockE, qLockS, qPop, qMaxDf, qLc2, qMax1, qMin1, qAppend, qExtend, tints_TI, dv_TI, Option.bind_some, qRetN, atI_0, atI_1, atI_2, mk_appT, mk_snocI, idl, rep_I, Option.map_none, eqv_idl, shaped_idl, Bool.and_self, Bool.true_and, Bool.and_true]))
namespace U
open PySem L2 DL RD UC
def sp_as_pairs : SpD := fun xs st Q => ∃ (a : Addr) (T : Tab), xs = [.r a] ∧ st a = some (.dT (tabD (vT T))) ∧ T.length ≤ 4000 ∧ Q (.d (PT (canZ T))) st
theorem len_as_pairs : ∀ xs st Q, sp_as_pairs xs st Q → xs.length = 1 := by rintro xs st Q ⟨a, T, rfl, _⟩; rfl
theorem sem_as_pairs : ∀ xs st Q, sp_as_pairs xs st Q → rd_as_pairs { nx := fun _ st' => Fg Q (.d .none) st', rt := Fg Q } (startD 3 xs) st := by
  rintro xs st Q ⟨a, T, rfl, hs, hl, K⟩
  have e0 : startD 3 [.r a] = [some (.r a), none, none] := rfl
  rw [e0]
  unfold rd_as_pairs
  walk_at "D"
  simp only [hs]
  intro o ws
  refine ⟨intKeys_tab _, ?_⟩
  rw [items_vT]
  refine ⟨by rw [List.length_map, List.length_map, sizeL]; omega, ?_⟩
  rw [List.map_map]
  refine comp_fmT _ (fun p : List Int × Int => decide (p.2 ≠ 0)) (fun p => .d (pairP p)) (inv := fun s => s a = some (MO.lk o ws (tabD (vT T)))) up_same _ _ ?_ ?_
  · intro p hp Q1 Q2 h
    simp only [Function.comp, pairP]
    walk_at "D"
    simp only [pairP] at h
    by_cases c : p.2 = 0
    · simp only [c, decide_true, Bool.not_true, Bool.false_eq_true, if_false, ne_eq, not_true_eq_false, decide_false] at h ⊢
      exact h
    · simp only [c, decide_false, Bool.not_false, if_true, ne_eq, not_false_eq_true, decide_true] at h ⊢
      exact ⟨by decide, h⟩
  · have e1 : ([] : List DV) ++ (T.filter fun p => decide (p.2 ≠ 0)).map (fun p => DV.d (pairP p)) = ((T.filter fun p => decide (p.2 ≠ 0)).map pairP).map DV.d := by
      rw [List.nil_append, List.map_map]
      rfl
    rw [e1]
    walk_at "D"
    have hf : (T.filter fun p => decide (p.2 ≠ 0)).length ≤ T.length := List.length_filter_le _ _
    refine ⟨alike_pairs _, sortX_pairs _, by omega, depth_pairs, ?_⟩
    rw [sort_pairs, up_up, up_id hs]
    exact fg_ret K
theorem keys_len (T : Tab) : T.length = (keysZ T).length := (List.length_map ..).symm
theorem len_tabZ (n : Nat) (G : List (List Int)) : (tabZ n G).length ≤ 2 ^ G.length := by
  rw [keys_len, keys_tab0]
  exact len_mulF n G
def sp_numerator : SpD := fun xs st Q => ∃ (G : List (List Int)) (n : Nat), xs = [.d (idl n G)] ∧ n ≤ 8 ∧ G.length ≤ 10 ∧ NNs n G ∧ Q (.d (PT (numL n G))) st
theorem len_numerator : ∀ xs st Q, sp_numerator xs st Q → xs.length = 1 := by rintro xs st Q ⟨G, n, rfl, _⟩; rfl
theorem sem_numerator : ∀ xs st Q, sp_numerator xs st Q → rd_numerator sp_want_small sp_lcm_of sp_as_pairs { nx := fun _ st' => Fg Q (.d .none) st', rt := Fg Q } (startD 6 xs) st := by
  rintro xs st Q ⟨G, n, rfl, hn, hl, hG, K⟩
  have e0 : startD 6 [.d (idl n G)] = [some (.d (idl n G)), none, none, none, none, none] := rfl
  rw [e0]
  unfold rd_numerator
  have len10 : ∀ i, (tabZ n (G.take i)).length ≤ 1024 := fun i => Nat.le_trans (len_tabZ n _) (Nat.le_trans (Nat.pow_le_pow_right (by decide) (show (G.take i).length ≤ 10 by rw [List.length_take]; omega)) (by decide))
  refine seq fun N hN => ?_
  walk_at "D"
  refine ⟨G, n, rfl, hn, hl, hN _ _ ?_⟩; clear hN N
  refine seq fun N hN => ?_
  walk_at "D"
  refine ⟨by decide, fun h => (nomatch h), by omega, by omega, by decide, ?_⟩
  walk_at "D"
  refine fun p hp => hN _ _ ?_; clear hN N
  refine seq fun N hN => ?_
  walk_at "D"
  rw [List.map_map]
  refine for_byT _ (fun i ε s => (∃ x2 x3 x4 x5, ε = [some (.d (idl n G)), some (.r p), x2, x3, x4, x5]) ∧ s p = some (.dT (tabD (vT (tabZ n (G.take i))))) ∧ ∀ b, b ≠ p → s b = st b) ⟨⟨_, _, _, _, rfl⟩, up_same, fun b hb => up_ne hb⟩ (fun _ _ _ _ => trivial) ?_ ?_
  · rintro i g ε s hi ⟨⟨x2, x3, x4, x5, rfl⟩, hs, fr⟩ L hL
    have hgm := List.mem_of_getElem? hi
    have hnx : tabZ n (G.take (i + 1)) = stepZ g (tabZ n (G.take i)) := by
      rw [List.take_succ, hi]
      exact tab_snoc n _ g
    have hM : ∀ p ∈ tabZ n (G.take i), NN n p.1 := nn_tab fun x hx => hG x (List.mem_of_mem_take hx)
    have h1024 := len10 i
    generalize tabZ n (G.take i) = M at hs hnx hM h1024
    walk_at "F"
    simp only [qiSeq, qListItems]
    walk_at "F"
    simp only [hs]
    refine ⟨intKeys_tab _, ?_⟩
    rw [items_vT]
    simp only [newL, datas_map]
    walk_at "D"
    rw [List.map_map]
    refine for_byT _ (fun j ε s' => (∃ x3 x4 x5, ε = [some (.d (idl n G)), some (.r p), some (.d (TI g)), x3, x4, x5]) ∧ s' p = some (.dT (tabD (vT ((M.take j).foldl (subZ g) M)))) ∧ ∀ b, b ≠ p → s' b = st b) ⟨⟨x3, x4, x5, rfl⟩, hs, fr⟩ (fun _ _ _ _ => trivial) ?_ ?_
    · rintro j m ε s' hj ⟨⟨y3, y4, y5, rfl⟩, hs', fr'⟩ L2 hL2
      have hmm := List.mem_of_getElem? hj
      have hnx2 : (M.take (j + 1)).foldl (subZ g) M = subZ g ((M.take j).foldl (subZ g) M) m := by
        rw [List.take_succ, hj, List.foldl_append]
        rfl
      have hlen : ((M.take j).foldl (subZ g) M).length ≤ 2048 := by
        rw [keys_len, keys_subs]
        refine Nat.le_trans (len_addAs _ _) ?_
        rw [List.length_map, List.length_map, List.length_take]
        omega
      generalize (M.take j).foldl (subZ g) M = A at hs' hnx2 hlen
      simp only [Function.comp, pairP]
      walk_at "D"
      refine seq fun N2 hN2 => ?_
      walk_at "D"
      refine ⟨m.1, g, rfl, by rw [(hM m hmm).1]; omega, ?_⟩
      refine hN2 _ _ ?_
      walk_at "D"
      obtain ⟨o, e1, e2⟩ := look_vT A (lcmL m.1 g)
      simp only [hs', isDM, e1, e2]
      walk_at "D"
      simp only [dput_vT A _ _ (show A.length < sizeLine by rw [sizeL]; omega)]
      refine hL2 _ _ ⟨⟨_, _, _, rfl⟩, ?_, fun b hb => by rw [up_ne hb]; exact fr' b hb⟩
      rw [up_same, hnx2]
      rfl
    · rintro ε s' ⟨⟨y3, y4, y5, rfl⟩, hs', fr'⟩
      rw [List.take_length] at hs'
      refine hL _ _ ⟨⟨_, _, _, _, rfl⟩, ?_, fr'⟩
      rw [hnx]
      exact hs'
  · rintro ε s ⟨⟨x2, x3, x4, x5, rfl⟩, hs, fr⟩
    refine hN _ _ ?_
    rw [List.take_length] at hs
    have hlen := len10 G.length
    rw [List.take_length] at hlen
    walk_at "D"
    exact ⟨p, _, rfl, hs, by omega, fg_le (le_up hp fr) K⟩
end U
end
section
set_option Elab.async false
set_option linter.all false
set_option maxRecDepth 100000
set_option maxHeartbeats 1000000
open PySem L2 DL RD UC
local macro_rules | `(tactic| walk_at "E") => `(tactic| (try simp only [qAsg, qRet, qDrop, qIfS, qTest, qAndT, qOrT, qNotT, qAndV, qOrV, qNotV, qIf, qOp, qUn, qChain, onB, qv, qc, qgN, qgT, qgCons, qgNil, qCons, qNil, qTup, qLst, qPar, qPar3, qAug, qCB, qCall, qLen, qTupleC, qListC, qMax2, qMin2, qIntC, qSum, qAny, qAll, qIsi, tyName, qAdd, qSub, qMul, qFdiv, qMod, qPow, qI2, qCmpI, qEq, qNe, qLt, qLe, qGt, qGe, qNeg, qIx, qDGet, qDIn, qDPut, qSl, qPart, qNoPart, qNext, qFor, qiSeq, qiRng1, qiRng2, qiZip, qiEnum, qLc, seqSrc, lsrc, titems, litems, sitems, fz, newL, List.getElem?_cons_zero, List.getElem?_cons_succ, List.set_cons_zero, List.set_cons_succ, if_true, if_false, Bool.false_eq_true, ite_true, ite_false, up_same, reduceIte, decide_true, decide_false, true_and, and_true]))
local macro_rules | `(tactic| walk_at "D") => `(tactic| (try simp only [qAsg, qRet, qDrop, qIfS, qTest, qAndT, qOrT, qNotT, qAndV, qOrV, qNotV, qIf, qOp, qUn, qChain, onB, qv, qc, qgN, qgT, qgCons, qgNil, qCons, qNil, qTup, qLst, qPar, qPar3, qAug, qCB, qCall, qLen, qTupleC, qListC, qMax2, qMin2, qIntC, qSum, qAny, qAll, qIsi, tyName, qAdd, qSub, qMul, qFdiv, qMod, qPow, qI2, qCmpI, qEq, qNe, qLt, qLe, qGt, qGe, qNeg, qIx, qDGet, qDIn, qDPut, qSl, qPart, qNoPart, qNext, qFor, qiSeq, qiRng1, qiRng2, qiZip, qiEnum, qLc, seqSrc, lsrc, titems, litems, sitems, fz, newL, List.getElem?_cons_zero, List.getElem?_cons_succ, List.set_cons_zero, List.set_cons_succ, if_true, if_false, Bool.false_eq_true, ite_true, ite_false, up_same, reduceIte, decide_true, decide_false, true_and, and_true, eqv_int, eqv_bool, eqv_TI, eqv_LI, eqv_TT, eqv_LT, eqv_nilL, eqv_nilT, shaped_TI, shaped_LI, shaped_TT, shaped_LT, shaped_int, shaped_bool, shaped_nilL, shaped_nilT, dints_map2, dbools_map2, datas_map, mkT_map, mkT_0, mkT_1, mkT_2, mkT_3, List.length_map, List.length_cons, List.length_nil, List.length_append, List.map_cons, List.map_nil, wipeD, Bool.not_true, Bool.not_false, eq_self, not_true_eq_false, not_false_eq_true, kitB_tt, kitB_ll, kitB_dd, kitB_bb, kitB_ib, kitB_ii, kitB_ss, kitB_tl, kitB_lt, Function.comp, datas, Option.map_some, List.cons_append, List.nil_append, CPow, le_size4, Int.toNat_natCast, rngD0, I_eq, Bo_eq, BS.qSortB, in_IT, in_IL, in_TT, in_TL, qNotN, qIsN, qSortD, qListRg, qDispT, keyX_TI, qGet, qiItems, qLockE, qLockS, qPop, qMaxDf, qLc2, qMax1, qMin1, qAppend, qExtend, tints_TI, dv_TI, Option.bind_some, qRetN, atI_0, atI_1, atI_2, mk_appT, mk_snocI, idl, rep_I, Option.map_none, eqv_idl, shaped_idl, Bool.and_self, Bool.true_and, Bool.and_true]))
local macro_rules | `(tactic| walk_at "F") => `(tactic| (try simp only [qAsg, qRet, qDrop, qIfS, qTest, qAndT, qOrT, qNotT, qAndV, qOrV, qNotV, qIf, qOp, qUn, qChain, onB, qv, qc, qgN, qgT, qgCons, qgNil, qCons, qNil, qTup, qLst, qPar, qPar3, qAug, qCB, qCall, qLen, qTupleC, qListC, qMax2, qMin2, qIntC, qSum, qAny, qAll, qIsi, tyName, qAdd, qSub, qMul, qFdiv, qMod, qPow, qI2, qCmpI, qEq, qNe, qLt, qLe, qGt, qGe, qNeg, qIx, qDGet, qDIn, qDPut, qSl, qPart, qNoPart, qNext, qFor, qiRng1, qiRng2, qiZip, qiEnum, qLc, fz, newL, List.getElem?_cons_zero, List.getElem?_cons_succ, List.set_cons_zero, List.set_cons_succ, if_true, if_false, Bool.false_eq_true, ite_true, ite_false, up_same, reduceIte, decide_true, decide_false, true_and, and_true, eqv_int, eqv_bool, eqv_TI, eqv_LI, eqv_TT, eqv_LT, eqv_nilL, eqv_nilT, shaped_TI, shaped_LI, shaped_TT, shaped_LT, shaped_int, shaped_bool, shaped_nilL, shaped_nilT, dints_map2, dbools_map2, datas_map, mkT_map, mkT_0, mkT_1, mkT_2, mkT_3, List.length_map, List.length_cons, List.length_nil, List.length_append, List.map_cons, List.map_nil, wipeD, Bool.not_true, Bool.not_false, eq_self, not_true_eq_false, not_false_eq_true, kitB_tt, kitB_ll, kitB_dd, kitB_bb, kitB_ib, kitB_ii, kitB_ss, kitB_tl, kitB_lt, Function.comp, datas, Option.map_some, List.cons_append, List.nil_append, CPow, le_size4, Int.toNat_natCast, rngD0, I_eq, Bo_eq, BS.qSortB, in_IT, in_IL, in_TT, in_TL, qNotN, qIsN, qSortD, qListRg, qDispT, keyX_TI, qGet, qiItems, qLockE, qLockS, qPop, qMaxDf, qLc2, qMax1, qMin1, qAppend, qExtend, tints_TI, dv_TI, Option.bind_some, qRetN, atI_0, atI_1, atI_2, mk_appT, mk_snocI, idl, rep_I, Option.map_none, eqv_idl, shaped_idl, Bool.and_self, Bool.true_and, Bool.and_true]))
namespace U
open PySem L2 DL RD UC
def Small (n : Nat) (G : List (List Int)) : Prop := n ≤ 8 ∧ G.length ≤ 10 ∧ ∀ g ∈ G, Mon n 60 g
theorem Small.nns {n : Nat} {G : List (List Int)} (h : Small n G) : NNs n G := fun g hg => ⟨(h.2.2 g hg).1, fun x hx => ((h.2.2 g hg).2 x hx).1⟩
theorem mon_lcm {n : Nat} {w : Int} {a b : List Int} (ha : Mon n w a) (hb : Mon n w b) : Mon n w (lcmL a b) := by
  have hl : (lcmL a b).length = n := lenLcm ha.1 hb.1
  refine ⟨hl, fun x hx => ?_⟩
  obtain ⟨j, hj, rfl⟩ := List.mem_iff_getElem.mp hx
  rw [gd_eq hj, gd_lcm ha.1 hb.1 (by omega)]
  have h1 := ha.2 _ (gd_mem (show j < a.length by rw [ha.1]; omega))
  have h2 := hb.2 _ (gd_mem (show j < b.length by rw [hb.1]; omega))
  omega
theorem mon_mulF {n : Nat} {w : Int} {G : List (List Int)} (h0 : 0 ≤ w) (h : ∀ g ∈ G, Mon n w g) : ∀ x ∈ mulF n G, Mon n w x := by
  have key : ∀ (G K : List (List Int)), (∀ g ∈ G, Mon n w g) → (∀ g ∈ K, Mon n w g) → ∀ x ∈ G.foldl stepF K, Mon n w x := by
    intro G
    induction G with
    | nil => exact fun K _ h => h
    | cons g G ih =>
      intro K hG hK
      refine ih (stepF K g) (fun x hx => hG x (List.mem_cons_of_mem _ hx)) fun x hx => ?_
      rcases mem_step.mp hx with hx | ⟨m, hm, rfl⟩
      · exact hK x hx
      · exact mon_lcm (hK m hm) (hG g List.mem_cons_self)
  exact key G _ h fun x hx => by
    rw [List.mem_singleton.mp hx]
    exact ⟨List.length_replicate .., fun x hx => by rw [(List.mem_replicate.mp hx).2]; exact ⟨Int.le_refl _, h0⟩⟩
theorem mem_num {n : Nat} {G : List (List Int)} {p : List Int × Int} (h : p ∈ numL n G) : p ∈ tabZ n G := (List.mem_filter.mp (mem_sortP.mp h)).1
theorem num_sum {n : Nat} {G : List (List Int)} (h : Small n G) {p : List Int × Int} (hp : p ∈ numL n G) : 0 ≤ p.1.sum ∧ p.1.sum ≤ 480 := by
  have hk : p.1 ∈ mulF n G := by
    rw [← keys_tab0]
    exact List.mem_map.mpr ⟨p, mem_num hp, rfl⟩
  have hm := mon_mulF (by decide) h.2.2 _ hk
  have h1 := sum_le hm
  have h2 := nn_sum (n := n) ⟨hm.1, fun x hx => (hm.2 x hx).1⟩
  have h3 := h.1
  refine ⟨h2, ?_⟩
  have : (n : Int) * 60 ≤ 8 * 60 := by omega
  omega
theorem len_num {n : Nat} {G : List (List Int)} (h : Small n G) : (numL n G).length ≤ 1024 := by
  unfold numL canZ sortP
  rw [List.length_mergeSort]
  refine Nat.le_trans (List.length_filter_le _ _) (Nat.le_trans (len_tabZ n G) ?_)
  exact Nat.le_trans (Nat.pow_le_pow_right (by decide) h.2.1) (by decide)
def dgI (e : Int) (a : List Int) : Int := if a.sum = e then 1 else 0
def rawI (S : List (Int × Int)) (L : Nat) : List Int := (List.range L).map fun (d : Nat) => getK S (d : Int)
def sp_graded_numerator : SpD := fun xs st Q => ∃ (G : List (List Int)) (n : Nat), xs = [.d (idl n G)] ∧ Small n G ∧ ∀ row, IsGr n G row → row.length ≤ 481 → Q (.d (TI row)) st
theorem len_graded_numerator : ∀ xs st Q, sp_graded_numerator xs st Q → xs.length = 1 := by rintro xs st Q ⟨G, n, rfl, _⟩; rfl
theorem sem_graded_numerator : ∀ xs st Q, sp_graded_numerator xs st Q → rd_graded_numerator sp_numerator { nx := fun _ st' => Fg Q (.d .none) st', rt := Fg Q } (startD 6 xs) st := by
  rintro xs st Q ⟨G, n, rfl, hG, K⟩
  have e0 : startD 6 [.d (idl n G)] = [some (.d (idl n G)), none, none, none, none, none] := rfl
  rw [e0]
  unfold rd_graded_numerator
  have hP := len_num hG
  have hS : ∀ p ∈ numL n G, 0 ≤ p.1.sum ∧ p.1.sum ≤ 480 := fun p hp => num_sum hG hp
  have hE : ∀ f, evT f (numL n G) = evT f (tabZ n G) := fun f => ev_canZ f _
  have hcall : ∀ (s : Sto) (R : DV → Sto → Prop), R (.d (PT (numL n G))) s → sp_numerator [.d (idl n G)] s R := fun s R h => ⟨G, n, rfl, hG.1, hG.2.1, hG.nns, h⟩
  generalize numL n G = P at hP hS hE hcall
  refine seq fun N hN => ?_
  walk_at "D"
  simp only [qDNew]
  refine fun p hp => hN _ _ ?_; clear hN N
  refine seq fun N hN => ?_
  walk_at "D"
  refine hcall _ _ ?_
  walk_at "D"
  rw [List.map_map]
  refine for_byT _ (fun i ε s => ∃ S x2 x3, ε = [some (.d (idl n G)), some (.r p), x2, x3, none, none] ∧ s p = some (.dK (tabK S)) ∧ (∀ b, b ≠ p → s b = st b) ∧ S.length ≤ i ∧ (∀ e, getK S e = evT (dgI e) (P.take i)) ∧ (∀ x ∈ S.map (·.1), 0 ≤ x ∧ x ≤ 480) ∧ ∀ q ∈ P.take i, q.1.sum ∈ S.map (·.1)) ⟨[], _, _, rfl, up_same, (fun b hb => up_ne hb), Nat.le_refl _, (fun e => rfl), (fun x hx => nomatch hx), fun q hq => nomatch hq⟩ (fun _ _ _ _ => trivial) ?_ ?_
  · rintro i m ε s hi ⟨S, x2, x3, rfl, hs, fr, h1, h2, h3, h4⟩ L hL
    have hm := List.mem_of_getElem? hi
    have hi2 := (List.getElem?_eq_some_iff.mp hi).1
    have e1 : P.take (i + 1) = P.take i ++ [m] := by rw [List.take_succ, hi]; rfl
    simp only [Function.comp, pairP]
    walk_at "D"
    obtain ⟨o, g1, g2⟩ := look_vK S m.1.sum
    simp only [hs, isDM, g1, g2]
    walk_at "D"
    simp only [dput_vK S _ _ (show S.length < sizeLine by rw [sizeL]; omega)]
    refine hL _ _ ⟨putK S m.1.sum (getK S m.1.sum + m.2), _, _, rfl, up_same, (fun b hb => by rw [up_ne hb]; exact fr b hb), Nat.le_trans (len_putK _ _ _) (by omega), fun e => ?_, fun x hx => ?_, fun q hq => ?_⟩
    · rw [getK_put, e1, ev_app, ← h2 e]
      unfold dgI evT
      simp only [evT]
      by_cases c : e = m.1.sum
      · rw [if_pos c, if_pos c.symm, c]
        omega
      · rw [if_neg c, if_neg fun z => c z.symm]
        omega
    · rcases mem_putK.mp hx with hx | rfl
      · exact h3 x hx
      · exact hS m hm
    · rw [e1, List.mem_append] at hq
      rcases hq with hq | hq
      · exact mem_putK.mpr (.inl (h4 q hq))
      · rw [List.mem_singleton.mp hq]
        exact mem_putK.mpr (.inr rfl)
  rintro ε s ⟨S, x2, x3, rfl, hs, fr, h1, h2, h3, h4⟩
  rw [List.take_length] at h2 h4
  refine hN _ _ ?_; clear hN N
  have hb : maxOr (-1) (S.map (·.1)) ≤ 480 := maxOr_le (by decide) fun x hx => (h3 x hx).2
  have hb0 : -1 ≤ maxOr (-1) (S.map (·.1)) := by
    cases hh : S.map (·.1) with
    | nil => exact Int.le_refl _
    | cons y l =>
      have z1 : y ∈ S.map (·.1) := by rw [hh]; exact List.mem_cons_self
      have := h3 y z1
      have := maxOr_ge (d := -1) z1
      rw [hh] at this
      omega
  obtain ⟨L, hL⟩ : ∃ L : Nat, maxOr (-1) (S.map (·.1)) + 1 = (L : Int) := ⟨(maxOr (-1) (S.map (·.1)) + 1).toNat, by omega⟩
  have hraw : ∀ h : Nat → Int, rowEv h (rawI S L) = evT (fun a => h a.sum.toNat) (tabZ n G) := fun h => by
    have e1 : rawI S L = (List.range L).map fun e => evT (fun a => if a.sum.toNat = e then 1 else 0) P := by
      unfold rawI
      refine List.map_congr_left fun d _ => ?_
      rw [h2]
      refine ev_cong fun q hq => ?_
      have := hS q hq
      unfold dgI
      by_cases c : q.1.sum = (d : Int)
      · rw [if_pos c, if_pos (by omega)]
      · rw [if_neg c, if_neg (by omega)]
    rw [e1, raw_ev (fun q hq => ?_), hE]
    have := maxOr_ge (d := -1) (h4 q hq)
    have := hS q hq
    omega
  have hlen : (rawI S L).length = L := by unfold rawI; rw [List.length_map, List.length_range]
  refine seq fun N hN => ?_
  walk_at "D"
  simp only [qListDK, hs]
  walk_at "D"
  rw [keys_vK]
  walk_at "D"
  rw [hL]
  walk_at "D"
  refine ⟨by omega, by omega, by rw [List.length_range, sizeL]; omega, ?_⟩
  refine comp_mapT _ (fun (d : Nat) => I (getK S (d : Int))) trivial _ _ ?_ ?_
  · intro d hd Q1 h
    walk_at "D"
    obtain ⟨o, g1, g2⟩ := look_vK S (d : Int)
    simp only [hs, isDM, g1, g2]
    walk_at "D"
    exact h
  have er : ([] : List DV) ++ (List.range L).map (fun (d : Nat) => I (getK S (d : Int))) = ((rawI S L).map .int).map .d := by
    unfold rawI
    rw [List.nil_append, List.map_map, List.map_map]
    rfl
  rw [er]
  walk_at "D"
  refine fun q hq => hN _ _ ?_; clear hN N
  generalize rawI S L = raw at hraw hlen
  have hqp : q ≠ p := fun e => by rw [e, hs] at hq; cases hq
  refine seq fun N hN => ?_
  refine ⟨fun μ ε s' => ∃ (l : List Int) (k : Nat), ε = [some (.d (idl n G)), some (.r p), x2, x3, some (.r q), none] ∧ s' q = some (.lst ((l.map .int).map .d)) ∧ (∀ b, b ≠ q → s' b = s b) ∧ raw = l ++ List.replicate k 0 ∧ μ = l.length, ⟨_, raw, 0, rfl, up_same, (fun b hb => up_ne hb), (List.append_nil raw).symm, rfl⟩, ?_⟩
  rintro μ ε s' ⟨l, k, rfl, hs', fr', hk, rfl⟩
  have fin : Strp l → N [some (.d (idl n G)), some (.r p), x2, x3, some (.r q), none] s' := fun hst => by
    refine hN _ _ ?_
    walk_at "D"
    simp only [hs']
    walk_at "D"
    refine fg_le (fun a m e => ?_) (K l ⟨hst, fun h => by rw [← hraw, hk]; exact (row_pad h l k 0).symm⟩ ?_)
    · have ha : a ≠ p := fun z => by rw [z, hp] at e; cases e
      have ha2 : a ≠ q := fun z => by
        rw [z] at e ha
        rw [fr q ha, e] at hq
        cases hq
      rw [fr' a ha2, fr a ha]
      exact e
    · have := congrArg List.length hk
      rw [List.length_append] at this
      omega
  walk_at "D"
  simp only [hs']
  walk_at "D"
  refine ⟨by decide, ?_⟩
  by_cases c : l = []
  · simp only [c, decide_true, Bool.not_true, Bool.false_eq_true, if_false]
    exact fin fun h => absurd c h
  · simp only [c, decide_false, Bool.not_false, if_true]
    obtain ⟨l', x, hl'⟩ : ∃ l' x, l = l' ++ [x] := by
      rcases List.eq_nil_or_concat l with z | ⟨l', x, z⟩
      · exact absurd z c
      · exact ⟨l', x, by rw [z, List.concat_eq_append]⟩
    subst hl'
    walk_at "D"
    have e2 : List.map DV.d (List.map PyData.int (l' ++ [x])) = List.map DV.d (List.map PyData.int l') ++ [I x] := by rw [List.map_append, List.map_append]; rfl
    rw [e2, atI_last]
    walk_at "D"
    by_cases cx : x = 0
    · simp only [cx, decide_true, if_true]
      refine ⟨_, I 0, rfl, ?_, l'.length, by simp, l', k + 1, ?_, (fun b hb => by rw [up_ne hb]; exact fr' b hb), ?_, rfl⟩
      · rw [List.getElem?_append_right (by simp)]
        simp
      · rw [List.dropLast_concat]
      · rw [hk, cx, List.append_assoc]
        rfl
    · simp only [cx, decide_false, Bool.false_eq_true, if_false]
      exact fin fun h => by simpa using cx
def binH (n d : Nat) (i : Nat) : Int := if i ≤ d then (ch (d - i + n - 1) (n - 1) : Int) else 0
def sp_count_by : SpD := fun xs st Q => ∃ (row : List Int) (n d : Nat), xs = [I n, .d (TI row), I d] ∧ 1 ≤ n ∧ n ≤ 100 ∧ d ≤ 2000000 ∧ row.length ≤ 100000 ∧ (∀ x ∈ row, x.natAbs < 2 ^ 60) ∧ Q (I (rowEv (binH n d) row)) st
theorem len_count_by : ∀ xs st Q, sp_count_by xs st Q → xs.length = 3 := by rintro xs st Q ⟨G, n, d, rfl, _⟩; rfl
theorem sem_count_by : ∀ xs st Q, sp_count_by xs st Q → rd_count_by { nx := fun _ st' => Fg Q (.d .none) st', rt := Fg Q } (startD 6 xs) st := by
  rintro xs st Q ⟨row, n, d, rfl, h1, h2, h3, h4, h5, K⟩
  have e0 : startD 6 [I n, .d (TI row), I d] = [some (I n), some (.d (TI row)), some (I d), none, none, none] := rfl
  rw [e0]
  unfold rd_count_by
  refine seq fun N hN => ?_
  walk_at "D"
  refine hN _ _ ?_; clear hN N
  refine seq fun N hN => ?_
  walk_at "D"
  rw [enumD_ints]
  refine for_byT _ (fun i ε s => s = st ∧ ∃ x4 x5, ε = [some (I n), some (.d (TI row)), some (I d), some (I (rowEv (binH n d) (row.take i))), x4, x5]) ⟨rfl, _, _, rfl⟩ (fun _ _ _ _ => trivial) ?_ ?_
  · rintro i q ε s hi ⟨rfl, x4, x5, rfl⟩ L hL
    have hi2 := (List.getElem?_eq_some_iff.mp hi).1
    rw [List.length_zipIdx] at hi2
    have hq : q = (row[i], i) := by
      rw [List.getElem?_zipIdx, List.getElem?_eq_getElem hi2] at hi
      have := Option.some.inj hi
      rw [← this, Nat.zero_add]
    subst hq
    have e1 : row.take (i + 1) = row.take i ++ [row[i]] := by rw [List.take_succ, List.getElem?_eq_getElem hi2]; rfl
    have e2 : rowEv (binH n d) (row.take (i + 1)) = rowEv (binH n d) (row.take i) + row[i] * binH n d i := by
      rw [e1, rowEv, row_app, List.length_take, Nat.min_eq_left (by omega), Nat.zero_add, rowE, rowE, Int.add_zero]
    have hx := h5 _ (List.getElem_mem hi2)
    walk_at "D"
    by_cases c : (i : Int) ≤ (d : Int)
    · simp only [c, decide_true, if_true]
      walk_at "D"
      have hb : (d : Int) - (i : Int) + (n : Int) - 1 = ((d - i + n - 1 : Nat) : Int) := by omega
      have hb2 : (n : Int) - 1 = ((n - 1 : Nat) : Int) := by omega
      rw [hb, hb2]
      refine ⟨by omega, by omega, by omega, .inl (by omega), cmul_l (by omega) (by omega), ?_⟩
      rw [comb_ch]
      have e3 : binH n d i = (ch (d - i + n - 1) (n - 1) : Int) := if_pos (by omega)
      refine hL _ _ ⟨rfl, some (I i), some (I row[i]), ?_⟩
      rw [e2, e3]
    · simp only [c, decide_false]
      walk_at "D"
      have e3 : binH n d i = 0 := if_neg (by omega)
      refine hL _ _ ⟨rfl, some (I i), some (I row[i]), ?_⟩
      rw [e2, e3, Int.mul_zero, Int.add_zero]
  · rintro ε s ⟨rfl, x4, x5, rfl⟩
    rw [List.length_zipIdx, List.take_length]
    refine hN _ _ ?_
    walk_at "D"
    exact fg_ret K
theorem cnt_ch : ∀ m k : Nat, cntD (m + 1) k = ch (k + m) m
  | 0, k => by
    rw [cnt_succ, ch_zero]
    induction k with
    | zero => simp [cnt_zero]
    | succ k ih => rw [List.range_succ, List.map_append, List.sum_append, ih]; simp [cnt_zero]
  | m + 1, k => by
    rw [cnt_succ]
    induction k with
    | zero => simp [cnt_ch m, ch_self]
    | succ k ih =>
      rw [List.range_succ, List.map_append, List.sum_append, ih]
      simp only [List.map_cons, List.map_nil, List.sum_cons, List.sum_nil, Nat.add_zero]
      rw [cnt_ch m, show k + 1 + (m + 1) = (k + (m + 1)) + 1 by omega, ch_ss, show k + 1 + m = k + (m + 1) by omega]
      omega
theorem count_left {n : Nat} {G : List (List Int)} {r : List Int} (hn : 1 ≤ n) (hG : NNs n G) (h : IsGr n G r) (d : Nat) : rowEv (binH n d) r = leftN n G d := by
  rw [h.ev, left_ev hG]
  refine ev_cong fun p hp => ?_
  have h0 := nn_sum (nn_tab hG p hp)
  unfold binH hC
  by_cases c : p.1.sum ≤ d
  · rw [if_pos c, if_pos (by omega)]
    obtain ⟨m, rfl⟩ : ∃ m, n = m + 1 := ⟨n - 1, by omega⟩
    rw [cnt_ch]
    rw [show d - p.1.sum.toNat + (m + 1) - 1 = ((d : Int) - p.1.sum).toNat + m by omega]
    rfl
  · rw [if_neg c, if_neg (by omega)]
def sp_count_left : SpD := fun xs st Q => ∃ (G : List (List Int)) (n d : Nat), xs = [.d (idl n G), I d] ∧ 1 ≤ n ∧ Small n G ∧ d ≤ 2000000 ∧ Q (I (leftN n G d)) st
theorem len_count_left : ∀ xs st Q, sp_count_left xs st Q → xs.length = 2 := by rintro xs st Q ⟨G, n, d, rfl, _⟩; rfl
theorem sem_count_left : ∀ xs st Q, sp_count_left xs st Q → rd_count_left sp_graded_numerator sp_count_by { nx := fun _ st' => Fg Q (.d .none) st', rt := Fg Q } (startD 2 xs) st := by
  rintro xs st Q ⟨G, n, d, rfl, h1, h2, h3, K⟩
  have e0 : startD 2 [.d (idl n G), I d] = [some (.d (idl n G)), some (I d)] := rfl
  rw [e0]
  unfold rd_count_left
  walk_at "D"
  refine ⟨G, n, rfl, h2, fun row hr hl => ?_⟩
  walk_at "D"
  refine ⟨row, n, d, rfl, h1, by have := h2.1; omega, h3, by omega, fun x hx => ?_, ?_⟩
  · obtain ⟨i, hi, rfl⟩ := List.mem_iff_getElem.mp hx
    have := gr_abs hr hi
    have := h2.2.1
    have : 2 ^ G.length ≤ 2 ^ 10 := Nat.pow_le_pow_right (by decide) this
    omega
  · rw [count_left h1 h2.nns hr]
    exact fg_ret K
end U
end
section
set_option Elab.async false
set_option linter.all false
set_option maxRecDepth 100000
set_option maxHeartbeats 4000000
namespace DL
open PySem PySem.Spec L2 PyProof.Rows
abbrev pairI (p : List Int × Int) : PyData := .tuple [.tuple (p.1.map .int), .int p.2]
theorem each_ref {β : Type} : ∀ l : List (Addr × β), PySem.W.EachIs (fun u (b : Addr × β) => u = Value.ref b.1) (l.map fun b => Value.ref b.1) l
  | [] => .nil
  | _ :: r => .cons rfl (each_ref r)
theorem of_each2 {β : Type} : ∀ {us : List Value} {l : List (Addr × β)}, PySem.W.EachIs (fun u (b : Addr × β) => u = Value.ref b.1) us l → us = l.map fun b => Value.ref b.1
  | _, _, .nil => rfl
  | _, _, .cons h t => by rw [List.map_cons, of_each2 t, h]
theorem each_mem {β : Type} {R : Value → Addr × β → Prop} : ∀ {l : List (Addr × β)}, (∀ b ∈ l, R (Value.ref b.1) b) → PySem.W.EachIs R (l.map fun b => Value.ref b.1) l
  | [], _ => .nil
  | b :: r, h => .cons (h b List.mem_cons_self) (each_mem fun c hc => h c (List.mem_cons_of_mem _ hc))
def rSortIt : List V → Hp → VK → Prop := fun vs H Q => ∃ (p a : Addr) (T : List (List Int × Int)), vs = [.ref p] ∧ H p = some (L2.DX.itemsO p a) ∧ H a = some (.dT (T.map fun t => (t.1.map Sum.inl, V.int t.2))) ∧ T.length ≤ 100000 ∧
  ∀ (l : Addr) (as : List Addr) (H2 : Hp), H l = none → (∀ b o, H b = some o → H2 b = some o) → H2 l = some (.lst (((as.zip T).mergeSort fun x y => leD (pairI x.2) (pairI y.2)).map fun z => V.ref z.1)) → l ∉ as → as.length = T.length →
    (∀ (j : Nat) (b : Addr), as[j]? = some b → H b = none ∧ ∃ (t : List Int × Int) (q : Addr), T[j]? = some t ∧ H q = some (.tup (t.1.map V.int)) ∧ H2 b = some (.tup [.ref q, .int t.2])) → Q (.ref l) H2
section
variable {X : Cx}
theorem cr_sortIt (hc : X.calm = true) (hu : X.A.units + 64 < cLine) : CallR X (.builtin "sorted") rSortIt := by
  intro pins s σ H xs us Q I r h
  obtain ⟨p, a, T, rfl, hp, ha, hl, q⟩ := h
  obtain rfl := Vals.ref1 r
  have view : s.heap.IsItemsView p a := (show ObjOk X.prog X.w H s.heap p (L2.DX.itemsO p a) from I.hok p _ hp).1
  obtain ⟨z, hd, xs', rel, o, es, ep, ho, hx, hdat, hes, his, hn⟩ := dt_of I.hok ha
  have l1 : T.length = xs'.length := by have := Paired.length rel; rwa [List.length_map] at this
  have l2 : es.size = xs'.length := size_of_entries hes
  have hh : X.A.handled = none := I.ok.hd hc
  have hz : T.length ≤ sizeLine := by rw [sizeLine_eq]; omega
  refine Calls.call_function_entry kind_sorted plain_sorted entry_sorted (args_sorted1 _) ?_; unfold Builtin.«sorted»
  refine wpAny_bind (m := checkCount "sorted" 1 1 _) (wpAny_pure ?_)
  refine wpAny_bind (PySem.W.dil_collect (A := X.A.in1) (es := es) (ep := ep) hh view ⟨o, ho, hx, hdat⟩ (by omega) fun h1 tk as k1 lak0 hG => ?_)
  have lak : as.length = T.length := by omega
  have nd : as.Nodup := List.Pairwise.imp (fun h => Nat.ne_of_lt h) hG.rise
  have pr : ∀ (j : Nat) (b : Addr), as[j]? = some b → ∃ (t : List Int × Int) (tk : Tok) (q : Addr), T[j]? = some t ∧ H q = some (.tup (t.1.map V.int)) ∧ h1.get? b = some { cls := .type "tuple", data := .seq #[Value.ref q, .int t.2 tk] } := by
    intro j b hj
    obtain ⟨hjs, hg⟩ := hG.pairs j b hj
    have he := entry_at hes j
    rw [Array.getElem?_eq_getElem hjs] at he
    cases hxj : xs'[j]? with
    | none => rw [hxj] at he; exact nomatch (show some es[j] = none from he)
    | some x =>
      rw [hxj] at he
      have een : es[j] = entryOfKey (tupleKind (mixKind X.prog X.w)) x := Option.some.inj he
      obtain ⟨e0, he0, r1, r2, r3⟩ := L2.DX.pget rel hxj
      rw [List.getElem?_map] at he0
      cases ht : T[j]? with
      | none => rw [ht] at he0; cases he0
      | some t =>
        rw [ht] at he0
        cases he0
        obtain ⟨tk, et⟩ := (show ∃ tk, x.2.2 = Value.int t.2 tk from r3)
        refine ⟨t, tk, x.2.1, rfl, by have := r2; rwa [BS.kV_inl] at this, ?_⟩
        rw [hg, een, ← et]
        all_goals rfl
  have hfr : ∀ b ∈ as, s.heap.objs.size < b := fun b hb => hG.above b hb
  have hlt : ∀ b ∈ as, b < h1.objs.size := fun b hb => hG.there hb
  have e1 : (as.zip T).map (·.1) = as := by rw [List.map_fst_zip (by omega)]
  refine wpAny_bind (wpAny_newList ?_ (by rw [List.length_map, lak]; exact hz))
  have evs : as.map Value.ref = (as.zip T).map fun b => Value.ref b.1 := by
    conv => lhs; rw [← e1]
    rw [List.map_map]
    rfl
  rw [evs]
  generalize hv : ((as.zip T).map fun b => Value.ref b.1) = vs
  have lv : vs.length = T.length := by rw [← hv, List.length_map, List.length_zip]; omega
  have oL : (h1.push (seqObj "list" vs.toArray 0)).get? h1.objs.size = some (seqObj "list" vs.toArray 0) := Heap.get?_push_size _ rfl
  have k2 : ∀ b u, s.heap.get? b = some u → (h1.push (seqObj "list" vs.toArray 0)).get? b = some u := fun b u e => Heap.get?_push_of_some _ (k1 b u e)
  have rds : ∀ b ∈ as.zip T, Reads (h1.push (seqObj "list" vs.toArray 0)) (.ref b.1) (pairI b.2) [] := by
    intro b hb
    obtain ⟨j, hj⟩ := List.getElem?_of_mem hb
    rw [List.getElem?_zip_eq_some] at hj
    obtain ⟨t, tk, q', ht, hq, hg⟩ := pr j b.1 hj.1
    rw [hj.2] at ht
    cases ht
    obtain ⟨ob, items, n, h2, h3, h4, h5⟩ := isT_keep (I.isT (SqT.of hq)) k2
    have rq : Reads (h1.push (seqObj "list" vs.toArray 0)) (.ref q') (.tuple (b.2.1.map .int)) [] := .tuple h2 h3 h4 (readsAll_of (ints_of_items h5))
    exact .tuple (Heap.get?_push_of_some _ hg) rfl rfl (ReadsAll.cons rq (ReadsAll.cons (.int _ _) .nil))
  refine wpAny_bind (wpAny_holding (BS.list_sort_X (s := { s with heap := h1.push (seqObj "list" vs.toArray 0), toks := tk }) (enc := fun b : Addr × (List Int × Int) => pairI b.2) (bs := as.zip T) (R := fun u b => u = Value.ref b.1) oL (by rw [← hv]; exact each_ref _) (by rw [← hv]; exact each_mem fun b hb => ⟨[], by rw [hv]; exact rds b hb, fun w => nomatch w⟩)
    (fun d hd d' hd' => ?_) (.inr fun d hd => ?_) (by rw [List.length_zip, sizeLine_eq]; omega) (fun b hb => ?_) fun out a1 a2 => ?_))
  · obtain ⟨b, _, rfl⟩ := List.mem_map.mp hd
    obtain ⟨b', _, rfl⟩ := List.mem_map.mp hd'
    show PySem.W.alike (pairI b.2) (pairI b'.2) = true
    unfold pairI
    simp only [PySem.W.alike, PySem.W.alikeAll, BS.alike_ints2]
    rfl
  · obtain ⟨b, _, rfl⟩ := List.mem_map.mp hd
    exact ⟨_, rfl⟩
  · have : (pairI b.2).depth ≤ 2 := by
      simp only [pairI, PyData.depth, PyData.depthAll, dep_ints]
      omega
    show X.A.units + 1 + _ + _ < _
    omega
  · obtain ⟨c, hc2⟩ := sortedHeap_at (vs := vs) (out := List.toArray out) oL
    have eo := of_each2 a2
    generalize hS : (as.zip T).mergeSort (PySem.W.dataLe false fun b : Addr × (List Int × Int) => pairI b.2) = S at a1 a2 eo
    have k3 : ∀ b u, h1.get? b = some u → (sortedHeap (h1.push (seqObj "list" vs.toArray 0)) h1.objs.size vs (List.toArray out)).get? b = some u := fun b u e => by
      have hlt := Heap.lt_size e
      rw [sortedHeap_old (Nat.ne_of_lt hlt) (by rw [size_push']; exact Nat.lt_succ_of_lt hlt)]
      exact Heap.get?_push_of_some _ e
    have gone : s.heap.get? h1.objs.size = none := by
      cases e : s.heap.get? h1.objs.size with
      | none => rfl
      | some u => exact absurd (Heap.lt_size (k1 _ _ e)) (Nat.lt_irrefl _)
    have hl0 : H h1.objs.size = none := HOk.gone I.hok gone
    have kk : ∀ b u, s.heap.get? b = some u → (sortedHeap (h1.push (seqObj "list" vs.toArray 0)) h1.objs.size vs (List.toArray out)).get? b = some u := fun b u e => k3 b u (k1 b u e)
    have lo : (S.map fun b => V.ref b.1).length ≤ sizeLine := by
      rw [List.length_map, ← hS, List.length_mergeSort, List.length_zip]
      omega
    have ro : Vals (S.map fun b => V.ref b.1) out := by
      rw [eo, show (S.map fun b => V.ref b.1) = (S.map (·.1)).map V.ref by rw [List.map_map]; rfl, show (S.map fun b => Value.ref b.1) = (S.map (·.1)).map Value.ref by rw [List.map_map]; rfl]
      exact L2.vals_refs _
    have I1 : Inv X pins σ (upd H h1.objs.size (.lst (S.map fun b => V.ref b.1))) { s with heap := sortedHeap (h1.push (seqObj "list" vs.toArray 0)) h1.objs.size vs (List.toArray out), toks := tk } := I.laidN (t' := tk) (o := .lst (S.map fun b => V.ref b.1)) kk gone hl0 ⟨lo, out, c, ro, hc2⟩
    obtain ⟨H2, I2, g, tq⟩ := L2.DX.takeT (P := fun b vs => ∃ (j : Nat) (t : List Int × Int) (q : Addr), as[j]? = some b ∧ T[j]? = some t ∧ H q = some (.tup (t.1.map V.int)) ∧ vs = [.ref q, .int t.2]) I as _ I1 nd fun b hb => by
      obtain ⟨j, hj⟩ := List.getElem?_of_mem hb
      obtain ⟨t, tk2, q', ht, hq, hg⟩ := pr j b hj
      have h1b := hfr b hb
      exact ⟨Nat.le_of_lt h1b, by rw [upd_ne (Nat.ne_of_lt (hlt b hb))]; exact I.hok.fresh (Nat.le_of_lt h1b), [.ref q', .int t.2], ⟨j, t, q', hj, ht, hq, rfl⟩, fun H2 => ⟨by show 2 ≤ sizeLine; decide, [.ref q', .int t.2 tk2], .cons rfl (.cons ⟨tk2, rfl⟩ .nil), ⟨_, k3 _ _ hg, rfl, _, rfl⟩⟩⟩
    refine wpAny_pure ⟨_, rfl, .ref h1.objs.size, H2, I2, rfl, q _ as H2 hl0 (fun b o e => g b o (by rw [upd_ne (ne_of_none e hl0)]; exact e)) (by rw [← hS] at g; exact g _ _ upd_same) (fun hm => Nat.lt_irrefl _ (hlt _ hm)) lak fun j b hj => ?_⟩
    have hb := List.mem_of_getElem? hj
    refine ⟨I.hok.fresh (Nat.le_of_lt (hfr b hb)), ?_⟩
    obtain ⟨vs', ⟨j', t, q', hj', ht, hq, rfl⟩, e⟩ := tq b hb
    have : j' = j := (List.getElem?_inj (List.getElem?_eq_some_iff.mp hj').1 nd).mp (hj'.trans hj.symm)
    subst this
    exact ⟨t, q', ht, hq, e⟩
end
end DL
end
section
set_option Elab.async false
set_option linter.all false
set_option maxRecDepth 100000
set_option maxHeartbeats 4000000
namespace DL
open PySem PySem.Spec L2 PyProof.Rows
variable [tB : Tb] [gR : Gr]
section
variable {P : Program} {w : World} {K : PySem.W.Frag} {mg : Str → Option Value} {base : Heap} {X : Cx} {N : List Str} {sc fs : Scope} {k : Nat}
def qSortIt (m : Bool) (te : TD) : TD := fun ε st Q => te ε st fun x s1 => match x with
  | .r a => ∃ T : List (List Int × Int), s1 a = some (.dT (T.map fun t => (t.1.map Sum.inl, .d (.int t.2)))) ∧ T.length ≤ 100000 ∧ newL m (((T.map pairI).mergeSort leD).map .d) s1 Q
  | _ => False
theorem ints_of_pr {F : Hp} : ∀ {ws : List (List Key × V)} {T : List (List Int × Int)}, PR K F ws (T.map fun t => (t.1.map Sum.inl, DV.d (.int t.2))) → ws = T.map fun t => (t.1.map Sum.inl, V.int t.2)
  | [], [], .nil => rfl
  | (kk, v) :: _, t :: _, .cons h tl => by
    obtain ⟨h1, h2⟩ := h
    dsimp only at h1 h2
    rw [List.map_cons, ints_of_pr tl, h1, rv_int h2]
theorem de_sortIt {e : Expr} {te : TD} {p apos cpos pos : Pos} (m : Bool) (c : Cok P w K mg base X N sc fs k) (hg : glB sc "sorted" = true) (hm : mg "sorted" = none) (h : DE X e te)
    (hbase : attributeBase e "items" X.env (eval e X.env) = eval e X.env := by rfl) (hline : (apos.endLine == cpos.line) = true := by rfl)
    (hs : starEach [.Call (.Attribute e "items" apos) [] [] cpos] X.env = (false, eval (.Call (.Attribute e "items" apos) [] [] cpos) X.env) :: starEach [] X.env := by rfl) :
    DE X (.Call (.Name "sorted" p) [.Call (.Attribute e "items" apos) [] [] cpos] [] pos) (qSortIt m te) := by
  obtain ⟨t1, p1, a1⟩ := h
  have g := gl_of c hg
  refine ⟨⟨_, pe_callB (cr_sortIt c.calm c.hu65) g.1 (by rw [c.hmg]; exact hm) bb_sorted (pa_cons (pe_bm0 F.plainAttrs_dict F.slot_dict_items F.type_dict_items L2.DX.mt_itemsT p1 hbase hline) pa_nil hs) g.2.1 g.2.2 hs rfl, fun F σ H ε st Qd Q R E h kk => ?_⟩⟩
  refine a1 F σ H ε st _ _ R E h fun F1 v H1 x s1 t1 R1 r q => ?_
  split at q
  rotate_left
  · exact q.elim
  rename_i a
  obtain ⟨T, es, hl, q⟩ := q
  cases r
  obtain ⟨ws, hw, pr⟩ := R1.ok a _ es
  have ew := ints_of_pr pr
  subst ew
  refine ⟨?_, a, _, rfl, rfl, hw, fun pv hpv => ?_⟩
  · exact .inr (.inr (.inl ⟨rfl, .inr ⟨_, hw⟩⟩))
  obtain ⟨R2, S2⟩ := R1.hide (o := L2.DX.itemsO pv a) hpv
  refine ⟨pv, a, T, rfl, upd_same, by rw [upd_ne (ne_of_none hw hpv)]; exact hw, hl, fun l as H2 hl g2 hl2 hla hlen hp => ?_⟩
  let qs : List Addr := as.filterMap fun b => match H2 b with | some (.tup (.ref q :: _)) => some q | _ => none
  have hqs : ∀ qq ∈ qs, ∃ (ns : List Int), upd H1 pv (L2.DX.itemsO pv a) qq = some (.tup (ns.map V.int)) := fun qq hq => by
    obtain ⟨b, hb, e⟩ := List.mem_filterMap.mp hq
    obtain ⟨j, hj⟩ := List.getElem?_of_mem hb
    obtain ⟨_, t, q', e1, e2, e3⟩ := hp j b hj
    rw [e3] at e
    cases e
    exact ⟨t.1, e2⟩
  obtain ⟨R3, S3⟩ := grow_tups (bs := as ++ qs) R2 g2 fun b hb => by
    rcases List.mem_append.mp hb with hb | hb
    · obtain ⟨j, hj⟩ := List.getElem?_of_mem hb
      obtain ⟨h0, t, q', e1, e2, e3⟩ := hp j b hj
      exact ⟨_, e3, .inl h0⟩
    · obtain ⟨kk, e⟩ := hqs b hb
      exact ⟨_, g2 _ _ e, .inr e⟩
  have hlp : l ≠ pv := fun z => by rw [z, upd_same] at hl; cases hl
  have hl1 : H1 l = none := by rw [upd_ne hlp] at hl; exact hl
  have hlq : l ∉ qs := fun hm => by
    obtain ⟨kk', e⟩ := hqs l hm
    rw [hl] at e
    cases e
  have f0 : extF F1 H2 (as ++ qs) l = none := by
    unfold extF
    rw [if_neg fun hm => (List.mem_append.mp hm).elim hla hlq]
    exact (R2.free hl).1
  have each : ∀ z ∈ as.zip T, Rp X.K (extF F1 H2 (as ++ qs)) (.ref z.1) (pairI z.2) := fun z hz => by
    obtain ⟨j, hj⟩ := List.getElem?_of_mem hz
    rw [List.getElem?_zip_eq_some] at hj
    obtain ⟨h0, t, q', e1, e2, e3⟩ := hp j z.1 hj.1
    rw [hj.2] at e1
    cases e1
    have hb := List.mem_of_getElem? hj.1
    have hqm : q' ∈ qs := List.mem_filterMap.mpr ⟨z.1, hb, by rw [e3]⟩
    refine .tup (by rw [extF_in (List.mem_append_left _ hb)]; exact e3) (.cons (.tup (by rw [extF_in (List.mem_append_right _ hqm)]; exact g2 _ _ e2) (rp_all z.2.1)) (.cons (.int _) .nil))
  have lz : (as.zip T).map (·.2) = T := by rw [List.map_snd_zip (by omega)]
  have e3 : (T.map pairI).mergeSort leD = ((as.zip T).mergeSort fun x y => leD (pairI x.2) (pairI y.2)).map fun z => pairI z.2 := by
    rw [show T.map pairI = (as.zip T).map (fun z => pairI z.2) by conv => lhs; rw [← lz]
                                                                  rw [List.map_map]; rfl]
    exact (List.map_mergeSort (r := fun x y : Addr × (List Int × Int) => leD (pairI x.2) (pairI y.2)) (s := leD) (f := fun z : Addr × (List Int × Int) => pairI z.2) fun a _ b _ => rfl).symm
  rw [e3, List.map_map] at q
  refine seen_lst R1 (S2.trans S3) hl1 R3 hl2 f0 (R2.free hl).2 ?_ q (kk.step t1)
  have : ∀ L : List (Addr × (List Int × Int)), (∀ z ∈ L, z ∈ as.zip T) → RVs X.K (extF F1 H2 (as ++ qs)) (L.map fun z => V.ref z.1) (L.map (DV.d ∘ fun z => pairI z.2)) := by
    intro L
    induction L with
    | nil => exact fun _ => .nil
    | cons z r ih => exact fun hz => .cons (.d (each z (hz z List.mem_cons_self))) (ih fun y hy => hz y (List.mem_cons_of_mem _ hy))
  exact this _ fun z hz => (List.mergeSort_perm _ _).mem_iff.mp hz
end
end DL
namespace DL
open PySem PySem.Spec L2 PyProof.Rows
variable [tB : Tb] [gR : Gr]
/-- a body that is never run -/
theorem dss_never {X : Cx} {body : List Stmt} : DSs X body (fun _ _ _ => False) := ⟨⟨fun _ _ _ => False, ⟨fun _ _ _ _ _ _ h => h.elim⟩, fun _ _ _ _ _ _ _ _ _ h => h.elim⟩⟩
end DL
end
section
set_option Elab.async false
set_option linter.all false
set_option maxRecDepth 100000
set_option maxHeartbeats 4000000
namespace DL
open PySem PySem.W PySem.Calls PySem.Spec L2 PyProof.Rows PyProof.V
section
variable {prog : Program} {w : World} {A : Around} {E : Value → Shared → Prop} {s : Shared}
theorem samePairsE {nm : String} {a b : Addr} {es : Array DictEntry} {ep ep' : Nat} {Q : Bool → Shared → Prop} (ha : (a == sysModules) = false) (hb : (b == sysModules) = false)
    (da : s.heap.DictRaw a es ep) (db : s.heap.DictRaw b #[] ep') (h : Q (es.size == 0) s) :
    wpAny (model prog w) A (Builtin.Dict.samePairs nm a b) Q E s := by
  obtain ⟨oa, hoa, _, hda⟩ := da
  obtain ⟨ob, hob, _, hdb⟩ := db
  unfold Builtin.Dict.samePairs Builtin.Dict.showsAll
  rw [if_neg (show ¬ (a == sysModules) = true by rw [ha]; exact Bool.false_ne_true), if_neg (show ¬ (b == sysModules) = true by rw [hb]; exact Bool.false_ne_true)]
  refine wpAny_bind (wpAny_pure (wpAny_bind (wpAny_pure ?_)))
  refine wpAny_bind (wpAny_dictEntries hoa hda ?_)
  dsimp only
  refine wpAny_bind (wpAny_dictEntries hob hdb ?_)
  by_cases hsz : es.size = 0
  case neg =>
    rw [if_pos (by simpa using hsz)]
    have hbf : (es.size == 0) = false := by simpa using hsz
    rw [hbf] at h
    exact wpAny_bind (wpAny_rule (wpAny_pure h))
  case pos =>
    have h' : Q true s := by simpa [hsz] using h
    rw [if_neg (by rw [hsz]; simp)]
    refine wpAny_bind (wpAny_dictEpoch hoa hda ?_)
    refine wpAny_bind ?_
    rw [Std.Legacy.Range.forIn_eq_forIn_range']
    simp only [Std.Legacy.Range.size, Nat.sub_zero, Nat.add_sub_cancel, Nat.div_one, hsz, List.range', List.forIn_nil]
    exact wpAny_pure (wpAny_pure h')
theorem cmpE {a b : Addr} {es : Array DictEntry} {ep ep' : Nat} {Q : Value → Shared → Prop} (ha : (a == sysModules) = false) (hb : (b == sysModules) = false)
    (da : s.heap.DictRaw a es ep) (db : s.heap.DictRaw b #[] ep') (hu : A.units < cLine) (h : Q (.bool (es.size == 0)) s) :
    wpAny (model prog w) A (compareOp .Eq (.ref a) (.ref b)) Q E s := by
  refine wpAny_richCompare_same_room (op := .Eq) da.typeIs db.typeIs PySem.F.slot_dict_eq (wpAny_call_entry PySem.F.slot_dict_eq da.typeIs PySem.F.entry_dict_eq ?_ (PySem.F.args_dict_eq_2 _ _)) hu
  show wpAny _ _ (Builtin.Dict.dictSlotArgs "__eq__" ⟨[.ref a, .ref b], []⟩ >>= _) _ _ s
  refine wpAny_bind ?_
  unfold Builtin.Dict.dictSlotArgs
  refine wpAny_bind (wpAny_notOrdered_dict da.typeIs ?_)
  show wpAny _ _ (pure (Value.ref a, Value.ref b)) _ _ s
  refine wpAny_pure ?_
  refine wpAny_bind (wpAny_isInstance (T := "dict") db.typeIs PySem.F.sub_dict_dict ?_)
  simp only [Bool.not_true, Bool.false_eq_true, if_false]
  refine wpAny_bind (wpAny_pure (wpAny_bind (wpAny_pure ?_)))
  refine wpAny_bind (samePairsE ha hb da db ?_)
  refine wpAny_pure ⟨_, rfl, ?_, ?_⟩
  · exact fun x => nomatch x
  · simpa using h
end
section
variable {X : Cx}
/-- the dict at a has n pairs -/
def SzD (H : Hp) (a : Addr) (n : Nat) : Prop := (∃ kvs, H a = some (.dK kvs) ∧ kvs.length = n) ∨ ∃ kvs, H a = some (.dT kvs) ∧ kvs.length = n
theorem SzD.raw {P : Program} {w : World} {H : Hp} {h : Heap} {a : Addr} {n : Nat} (ok : HOk P w H h) (e : SzD H a n) : (a == sysModules) = false ∧ ∃ es ep, h.DictRaw a es ep ∧ es.size = n := by
  rcases e with ⟨kvs, e, rfl⟩ | ⟨kvs, e, rfl⟩
  · obtain ⟨_, hd, vs, pr, dd⟩ := dk_of ok e
    obtain ⟨es, ep, r, hs, _⟩ := dd.raw
    exact ⟨hd, es, ep, r, hs.trans (Paired.length pr).symm⟩
  · obtain ⟨_, hd, xs, pr, dd⟩ := dt_of ok e
    obtain ⟨es, ep, r, hs, _⟩ := dd.raw
    exact ⟨hd, es, ep, r, hs.trans (Paired.length pr).symm⟩
def rEmp (neg : Bool) : R2 := fun x y H Q => ∃ a b n, x = .ref a ∧ y = .ref b ∧ SzD H a n ∧ SzD H b 0 ∧ Q (.bl (if neg then !(n == 0) else n == 0)) H
theorem op_emp (hu : X.A.units + 64 < cLine) : OpR X (compareOp .Eq) (rEmp false) := by
  intro pins s σ H x y v u Q I rx ry ⟨a, b, n, ex, ey, sa, sb, q⟩
  subst ex ey
  cases rx
  cases ry
  obtain ⟨ha, es, ep, ra, rfl⟩ := sa.raw I.hok
  obtain ⟨hb, es', ep', rb, h0⟩ := sb.raw I.hok
  cases Array.size_eq_zero_iff.mp h0
  exact cmpE ha hb ra rb (by omega) ⟨.bl _, H, I, rfl, q⟩
end
variable [tB : Tb] [gR : Gr]
section
variable {X : Cx}
/-- how many pairs a dict has -/
def szD : Option MO → Option Nat
  | some (.dT kvs) => some kvs.length
  | some (.dK kvs) => some kvs.length
  | _ => none
def qEmp (neg : Bool) : R2D := fun x y st Q => match x, y with
  | .r a, .r b => match szD (st a), szD (st b) with
    | some n, some 0 => Q (.d (.bool (if neg then !(n == 0) else n == 0))) st
    | _, _ => False
  | _, _ => False
theorem szD_ok {K : PySem.W.Frag} {F H : Hp} {st : Sto} {a : Addr} {n : Nat} (R : Rs K F H st) (h : szD (st a) = some n) : SzD H a n := by
  unfold szD at h
  split at h
  · rename_i kvs e
    cases h
    obtain ⟨ws, hw, pr⟩ := R.ok a _ e
    exact .inr ⟨ws, hw, Paired.length pr⟩
  · rename_i kvs e
    cases h
    obtain ⟨ws, hw, pr⟩ := R.ok a _ e
    exact .inl ⟨ws, hw, Paired.length pr⟩
  · cases h
theorem s2_emp {K : PySem.W.Frag} {neg : Bool} : S2 K (rEmp neg) (qEmp neg) := fun F H st v w x y Qd Q R rv rw' h kk => by
  unfold qEmp at h
  split at h
  rotate_left
  · exact h.elim
  rename_i a b
  split at h
  rotate_left
  · exact h.elim
  rename_i n e1 e2
  cases rv
  cases rw'
  exact ⟨a, b, n, rfl, rfl, szD_ok R e1, szD_ok R e2, kk.at R (.d (.bl _)) h⟩
theorem op_qEmp (hu : X.A.units + 64 < cLine) : ∃ r', OpR X (compareOp .Eq) r' ∧ S2 X.K r' (qEmp false) := ⟨_, op_emp hu, s2_emp⟩
end
end DL
end
section
set_option Elab.async false
set_option linter.all false
set_option maxRecDepth 100000
namespace RD
open PySem L2 DL
/-- _law_added(rows, others, factor, sign) slots: 0=rows 1=others 2=factor 3=sign 4=found 5=b 6=number 7=c -/
def rd_law_added (sp_law_times : SpD) : TDs :=
  (qSeq (qAsg (qDNew true) (qgN 4))
  (qSeq (qFor (qiSeq (qv 0)) (qgT 2 (qgCons (qgN 5) (qgCons (qgN 6) qgNil))) (qDPut (qv 4) (qv 5) (qOp (qAdd false) (qGet (qv 4) (qv 5) (qc (.d (.int 0)))) (qv 6))))
  (qSeq (qFor (qiSeq (qv 1)) (qgT 2 (qgCons (qgN 5) (qgCons (qgN 6) qgNil))) (qSeq (qAsg (qCall sp_law_times (qCons (qv 5) (qCons (qv 2) qNil))) (qgN 7))
      (qDPut (qv 4) (qv 7) (qOp (qAdd false) (qGet (qv 4) (qv 7) (qc (.d (.int 0)))) (qOp (qMul false) (qv 3) (qv 6))))))
  (qRet (qCB qTupleC (qCons (qSortD false (qLockE 4 (qLc false (qiKeysT (qv 4)) (qgN 5) (qTest (qOp qNe (qOp qDGet (qv 4) (qv 5)) (qc (.d (.int 0))))) (qTup (qCons (qv 5) (qCons (qOp qDGet (qv 4) (qv 5)) qNil))) [5]))) qNil))))))
/-- ideal_of(n, monomials) slots: 0=n 1=monomials -/
def rd_ideal_of (sp_made : SpD) : TDs :=
  (qRet (qCall sp_made (qCons (qv 0) (qCons (qCB (qListC false) (qCons (qv 1) qNil)) qNil))))
/-- _law_small(m, n, count, top) slots: 0=m 1=n 2=count 3=top 4=ideal -/
def rd_law_small (sp_law_ideal : SpD) : TDs :=
  (qSeq (qAsg (qCall sp_law_ideal (qCons (qv 0) (qCons (qv 1) (qCons (qv 2) (qCons (qv 3) qNil))))) (qgN 4))
  (qRet (qTup (qCons (qv 1) (qCons (qSl false (qOp qIx (qv 4) (qc (.d (.int 1)))) qNoPart (qPart (qv 2))) qNil)))))
/-- split_table(n, generators) slots: 0=n 1=generators 2=last 3=left 4=table 5=rest 6=one 7=number 8=multiple -/
def rd_split_table (sp_split_table : SpD) (sp_cut : SpD) (sp_least_ones : SpD) (sp_times : SpD) : TDs :=
  (qSeq (qIfS (qTest (qOp qEq (qv 1) (qTup qNil))) (qRet (qDispT (qOp (qMul false) (qTup (qCons (qc (.d (.int 0))) qNil)) (qv 0)) (qc (.d (.int 1))))) qNext)
  (qSeq (qAsg (qTup (qCons (qOp qIx (qv 1) (qUn qNeg (qc (.d (.int 1))))) (qCons (qSl false (qv 1) qNoPart (qPart (qUn qNeg (qc (.d (.int 1)))))) qNil))) (qgT 2 (qgCons (qgN 2) (qgCons (qgN 3) qgNil))))
  (qSeq (qAsg (qCall sp_split_table (qCons (qv 0) (qCons (qv 3) qNil))) (qgN 4))
  (qSeq (qAsg (qCB qTupleC (qCons (qCall sp_least_ones (qCons (qLc false (qiSeq (qv 3)) (qgN 6) qYes (qCall sp_cut (qCons (qv 6) (qCons (qv 2) qNil))) [6]) qNil)) qNil)) (qgN 5))
  (qSeq (qFor (qiItems (qFrz (qCall sp_split_table (qCons (qv 0) (qCons (qv 5) qNil))))) (qgT 2 (qgCons (qgN 6) (qgCons (qgN 7) qgNil))) (qSeq (qAsg (qCall sp_times (qCons (qv 6) (qCons (qv 2) qNil))) (qgN 8))
      (qDPut (qv 4) (qv 8) (qOp qSub (qGet (qv 4) (qv 8) (qc (.d (.int 0)))) (qv 7)))))
  (qRet (qv 4)))))))
/-- numerator_by_splitting(ideal) slots: 0=ideal -/
def rd_numerator_by_splitting (sp_want_small : SpD) (sp_split_table : SpD) (sp_as_pairs : SpD) : TDs :=
  (qSeq (qDrop (qCall sp_want_small (qCons (qv 0) qNil)))
  (qRet (qCall sp_as_pairs (qCons (qCall sp_split_table (qCons (qOp qIx (qv 0) (qc (.d (.int 0)))) (qCons (qOp qIx (qv 0) (qc (.d (.int 1)))) qNil))) qNil))))
/-- _law_count(n, rows, degree) slots: 0=n 1=rows 2=degree 3=found 4=a -/
def rd_law_count (sp_law_box : SpD) (sp_law_in : SpD) : TDs :=
  (qSeq (qAsg (qLc false (qiSeq (qCall sp_law_box (qCons (qOp (qMul false) (qTup (qCons (qv 2) qNil)) (qv 0)) qNil))) (qgN 4) (qAndT (qTest (qOp qEq (qCB qSum (qCons (qv 4) qNil)) (qv 2))) (qNotT (qTest (qCall sp_law_in (qCons (qv 1) (qCons (qv 4) qNil)))))) (qv 4) [4]) (qgN 3))
  (qRet (qCB qLen (qCons (qv 3) qNil))))
/-- is_whole(ideal) slots: 0=ideal -/
def rd_is_whole : TDs :=
  (qRet (qOp qEq (qOp qIx (qv 0) (qc (.d (.int 1)))) (qTup (qCons (qOp (qMul false) (qTup (qCons (qc (.d (.int 0))) qNil)) (qOp qIx (qv 0) (qc (.d (.int 0))))) qNil))))
/-- multiples(n, generators) slots: 0=n 1=generators 2=found 3=generator 4=one -/
def rd_multiples (sp_lcm_of : SpD) : TDs :=
  (qSeq (qAsg (qDispT (qOp (qMul false) (qTup (qCons (qc (.d (.int 0))) qNil)) (qv 0)) (qc (.d (.bool true)))) (qgN 2))
  (qSeq (qFor (qiSeq (qv 1)) (qgN 3) (qFor (qiSeq (qCB (qListDT false) (qCons (qv 2) qNil))) (qgN 4) (qDPut (qv 2) (qCall sp_lcm_of (qCons (qv 4) (qCons (qv 3) qNil))) (qc (.d (.bool true))))))
  (qRet (qSortS false (qSortD false (qCB (qListDT false) (qCons (qv 2) qNil)))))))
/-- signs(ideal) slots: 0=ideal 1=n 2=generators 3=table 4=one 5=below 6=other 7=number -/
def rd_signs (sp_want_small : SpD) (sp_is_whole : SpD) (sp_multiples : SpD) (sp_divides : SpD) : TDs :=
  (qSeq (qDrop (qCall sp_want_small (qCons (qv 0) qNil)))
  (qSeq (qAsg (qv 0) (qgT 2 (qgCons (qgN 1) (qgCons (qgN 2) qgNil))))
  (qSeq (qIfS (qTest (qCall sp_is_whole (qCons (qv 0) qNil))) (qRet (qTup qNil)) qNext)
  (qSeq (qAsg (qDNew true) (qgN 3))
  (qSeq (qFor (qiSeq (qCall sp_multiples (qCons (qv 1) (qCons (qv 2) qNil)))) (qgN 4) (qSeq (qLockS 3 (qAsg (qLc false (qiItems (qv 3)) (qgT 2 (qgCons (qgN 6) (qgCons (qgN 7) qgNil))) (qTest (qCall sp_divides (qCons (qv 6) (qCons (qv 4) qNil)))) (qv 7) [6, 7]) (qgN 5)))
      (qDPut (qv 3) (qv 4) (qIf (qTest (qOp (qEmp false) (qv 3) (qDNew true))) (qc (.d (.int 1))) (qUn qNeg (qCB qSum (qCons (qv 5) qNil)))))))
  (qRet (qCB qTupleC (qCons (qSortIt false (qv 3)) qNil))))))))
/-- law(script) slots: 0=script 1=k 2=m 3=n 4=a 5=b 6=factor 7=one 8=whole 9=wider 10=ideal 11=told 12=degree 13=counts 14=pair -/
def rd_law (sp_law_begun : SpD) (sp_law_draw : SpD) (sp_law_monomial : SpD) (sp_law_small : SpD) (sp_meet_of : SpD) (sp_numerator : SpD) (sp_sum_of : SpD) (sp_law_added : SpD) (sp_ideal_of : SpD) (sp_colon_by : SpD) (sp_numerator_by_splitting : SpD) (sp_signs : SpD) (sp_count_left : SpD) (sp_law_count : SpD) : TDs :=
  (qSeq (qFor (qiRng1 (qCons (qCB qMax2 (qCons (qc (.d (.int 2))) (qCons (qCB qMin2 (qCons (qCB qLen (qCons (qv 0) qNil)) (qCons (qc (.d (.int 3))) qNil))) qNil))) qNil)) (qgN 1) (qSeq (qAsg (qCall sp_law_begun (qCons (qv 0) (qCons (qv 1) qNil))) (qgN 2))
      (qSeq (qAsg (qOp (qAdd false) (qc (.d (.int 1))) (qCall sp_law_draw (qCons (qv 2) (qCons (qc (.d (.int 3))) qNil)))) (qgN 3))
      (qSeq (qPar3 4 5 6 (qCons (qCall sp_law_small (qCons (qv 2) (qCons (qv 3) (qCons (qc (.d (.int 3))) (qCons (qc (.d (.int 3))) qNil))))) (qCons (qCall sp_law_small (qCons (qv 2) (qCons (qv 3) (qCons (qc (.d (.int 3))) (qCons (qc (.d (.int 3))) qNil))))) (qCons (qCall sp_law_monomial (qCons (qv 2) (qCons (qv 3) (qCons (qc (.d (.int 3))) qNil)))) qNil))))
      (qSeq (qAsg (qOp (qMul false) (qTup (qCons (qc (.d (.int 0))) qNil)) (qv 3)) (qgN 7))
      (qSeq (qAsg (qCall sp_law_added (qCons (qCall sp_numerator (qCons (qCall sp_sum_of (qCons (qv 4) (qCons (qv 5) qNil))) qNil)) (qCons (qCall sp_numerator (qCons (qCall sp_meet_of (qCons (qv 4) (qCons (qv 5) qNil))) qNil)) (qCons (qv 7) (qCons (qc (.d (.int 1))) qNil))))) (qgN 8))
      (qSeq (qIfS (qTest (qOp qNe (qv 8) (qCall sp_law_added (qCons (qCall sp_numerator (qCons (qv 4) qNil)) (qCons (qCall sp_numerator (qCons (qv 5) qNil)) (qCons (qv 7) (qCons (qc (.d (.int 1))) qNil))))))) (qRet (qc (.d (.bool false)))) qNext)
      (qSeq (qAsg (qCall sp_ideal_of (qCons (qv 3) (qCons (qOp (qAdd false) (qCB (qListC false) (qCons (qOp qIx (qv 4) (qc (.d (.int 1)))) qNil)) (qLst false (qCons (qv 6) qNil))) qNil))) (qgN 9))
      (qSeq (qIfS (qTest (qOp qNe (qCall sp_numerator (qCons (qv 9) qNil)) (qCall sp_law_added (qCons (qCall sp_numerator (qCons (qv 4) qNil)) (qCons (qCall sp_numerator (qCons (qCall sp_colon_by (qCons (qv 4) (qCons (qv 6) qNil))) qNil)) (qCons (qv 6) (qCons (qUn qNeg (qc (.d (.int 1)))) qNil))))))) (qRet (qc (.d (.bool false)))) qNext)
      (qSeq (qFor (qiSeq (qLst false (qCons (qv 4) (qCons (qv 9) (qCons (qCall sp_meet_of (qCons (qv 4) (qCons (qv 5) qNil))) qNil))))) (qgN 10) (qSeq (qAsg (qCall sp_numerator (qCons (qv 10) qNil)) (qgN 11))
          (qSeq (qIfS (qTest (qOp qNe (qCall sp_numerator_by_splitting (qCons (qv 10) qNil)) (qv 11))) (qRet (qc (.d (.bool false)))) qNext)
          (qIfS (qTest (qOp qNe (qCB qTupleC (qCons (qLc false (qiSeq (qCall sp_signs (qCons (qv 10) qNil))) (qgN 14) (qTest (qOp qNe (qOp qIx (qv 14) (qc (.d (.int 1)))) (qc (.d (.int 0))))) (qv 14) [14]) qNil)) (qv 11))) (qRet (qc (.d (.bool false)))) qNext))))
      (qSeq (qAsg (qCall sp_law_draw (qCons (qv 2) (qCons (qc (.d (.int 9))) qNil))) (qgN 12))
      (qSeq (qAsg (qLc false (qiSeq (qLst false (qCons (qv 4) (qCons (qv 5) (qCons (qCall sp_sum_of (qCons (qv 4) (qCons (qv 5) qNil))) (qCons (qCall sp_meet_of (qCons (qv 4) (qCons (qv 5) qNil))) qNil)))))) (qgN 10) qYes (qCall sp_count_left (qCons (qv 10) (qCons (qv 12) qNil))) [10]) (qgN 13))
      (qIfS (qOrT (qTest (qOp qNe (qOp (qAdd false) (qOp qIx (qv 13) (qc (.d (.int 0)))) (qOp qIx (qv 13) (qc (.d (.int 1))))) (qOp (qAdd false) (qOp qIx (qv 13) (qc (.d (.int 2)))) (qOp qIx (qv 13) (qc (.d (.int 3))))))) (qTest (qOp qNe (qOp qIx (qv 13) (qc (.d (.int 0)))) (qCall sp_law_count (qCons (qv 3) (qCons (qOp qIx (qv 4) (qc (.d (.int 1)))) (qCons (qv 12) qNil))))))) (qRet (qc (.d (.bool false)))) qNext)))))))))))))
  (qRet (qc (.d (.bool true)))))
end RD
end
section
set_option Elab.async false
set_option linter.all false
set_option maxRecDepth 100000
set_option maxHeartbeats 1000000
open PySem L2 DL RD UC
local macro_rules | `(tactic| walk_at "E") => `(tactic| (try simp only [qAsg, qRet, qDrop, qIfS, qTest, qAndT, qOrT, qNotT, qAndV, qOrV, qNotV, qIf, qOp, qUn, qChain, onB, qv, qc, qgN, qgT, qgCons, qgNil, qCons, qNil, qTup, qLst, qPar, qPar3, qAug, qCB, qCall, qLen, qTupleC, qListC, qMax2, qMin2, qIntC, qSum, qAny, qAll, qIsi, tyName, qAdd, qSub, qMul, qFdiv, qMod, qPow, qI2, qCmpI, qEq, qNe, qLt, qLe, qGt, qGe, qNeg, qIx, qDGet, qDIn, qDPut, qSl, qPart, qNoPart, qNext, qFor, qiSeq, qiRng1, qiRng2, qiZip, qiEnum, qLc, seqSrc, lsrc, titems, litems, sitems, fz, newL, List.getElem?_cons_zero, List.getElem?_cons_succ, List.set_cons_zero, List.set_cons_succ, if_true, if_false, Bool.false_eq_true, ite_true, ite_false, up_same, reduceIte, decide_true, decide_false, true_and, and_true]))
local macro_rules | `(tactic| walk_at "D") => `(tactic| (try simp only [qAsg, qRet, qDrop, qIfS, qTest, qAndT, qOrT, qNotT, qAndV, qOrV, qNotV, qIf, qOp, qUn, qChain, onB, qv, qc, qgN, qgT, qgCons, qgNil, qCons, qNil, qTup, qLst, qPar, qPar3, qAug, qCB, qCall, qLen, qTupleC, qListC, qMax2, qMin2, qIntC, qSum, qAny, qAll, qIsi, tyName, qAdd, qSub, qMul, qFdiv, qMod, qPow, qI2, qCmpI, qEq, qNe, qLt, qLe, qGt, qGe, qNeg, qIx, qDGet, qDIn, qDPut, qSl, qPart, qNoPart, qNext, qFor, qiSeq, qiRng1, qiRng2, qiZip, qiEnum, qLc, seqSrc, lsrc, titems, litems, sitems, fz, newL, List.getElem?_cons_zero, List.getElem?_cons_succ, List.set_cons_zero, List.set_cons_succ, if_true, if_false, Bool.false_eq_true, ite_true, ite_false, up_same, reduceIte, decide_true, decide_false, true_and, and_true, eqv_int, eqv_bool, eqv_TI, eqv_LI, eqv_TT, eqv_LT, eqv_nilL, eqv_nilT, shaped_TI, shaped_LI, shaped_TT, shaped_LT, shaped_int, shaped_bool, shaped_nilL, shaped_nilT, dints_map2, dbools_map2, datas_map, mkT_map, mkT_0, mkT_1, mkT_2, mkT_3, List.length_map, List.length_cons, List.length_nil, List.length_append, List.map_cons, List.map_nil, wipeD, Bool.not_true, Bool.not_false, eq_self, not_true_eq_false, not_false_eq_true, kitB_tt, kitB_ll, kitB_dd, kitB_bb, kitB_ib, kitB_ii, kitB_ss, kitB_tl, kitB_lt, Function.comp, datas, Option.map_some, List.cons_append, List.nil_append, CPow, le_size4, Int.toNat_natCast, rngD0, I_eq, Bo_eq, BS.qSortB, in_IT, in_IL, in_TT, in_TL, qNotN, qIsN, qSortD, qListRg, qDispT, keyX_TI, qGet, qiItems, qLockE, qLockS, qPop, qMaxDf, qLPut, qDNew, qListItems, qListDK, qLc2, qMax1, qMin1, qAppend, qExtend, tints_TI, dv_TI, Option.bind_some, qRetN, atI_0, atI_1, atI_2, mk_appT, mk_snocI, idl, rep_I, Option.map_none, eqv_idl, shaped_idl, Bool.and_self, Bool.true_and, Bool.and_true]))
local macro_rules | `(tactic| walk_at "F") => `(tactic| (try simp only [qAsg, qRet, qDrop, qIfS, qTest, qAndT, qOrT, qNotT, qAndV, qOrV, qNotV, qIf, qOp, qUn, qChain, onB, qv, qc, qgN, qgT, qgCons, qgNil, qCons, qNil, qTup, qLst, qPar, qPar3, qAug, qCB, qCall, qLen, qTupleC, qListC, qMax2, qMin2, qIntC, qSum, qAny, qAll, qIsi, tyName, qAdd, qSub, qMul, qFdiv, qMod, qPow, qI2, qCmpI, qEq, qNe, qLt, qLe, qGt, qGe, qNeg, qIx, qDGet, qDIn, qDPut, qSl, qPart, qNoPart, qNext, qFor, qiRng1, qiRng2, qiZip, qiEnum, qLc, fz, newL, List.getElem?_cons_zero, List.getElem?_cons_succ, List.set_cons_zero, List.set_cons_succ, if_true, if_false, Bool.false_eq_true, ite_true, ite_false, up_same, reduceIte, decide_true, decide_false, true_and, and_true, eqv_int, eqv_bool, eqv_TI, eqv_LI, eqv_TT, eqv_LT, eqv_nilL, eqv_nilT, shaped_TI, shaped_LI, shaped_TT, shaped_LT, shaped_int, shaped_bool, shaped_nilL, shaped_nilT, dints_map2, dbools_map2, datas_map, mkT_map, mkT_0, mkT_1, mkT_2, mkT_3, List.length_map, List.length_cons, List.length_nil, List.length_append, List.map_cons, List.map_nil, wipeD, Bool.not_true, Bool.not_false, eq_self, not_true_eq_false, not_false_eq_true, kitB_tt, kitB_ll, kitB_dd, kitB_bb, kitB_ib, kitB_ii, kitB_ss, kitB_tl, kitB_lt, Function.comp, datas, Option.map_some, List.cons_append, List.nil_append, CPow, le_size4, Int.toNat_natCast, rngD0, I_eq, Bo_eq, BS.qSortB, in_IT, in_IL, in_TT, in_TL, qNotN, qIsN, qSortD, qListRg, qDispT, keyX_TI, qGet, qiItems, qLockE, qLockS, qPop, qMaxDf, qLPut, qDNew, qListItems, qListDK, qLc2, qMax1, qMin1, qAppend, qExtend, tints_TI, dv_TI, Option.bind_some, qRetN, atI_0, atI_1, atI_2, mk_appT, mk_snocI, idl, rep_I, Option.map_none, eqv_idl, shaped_idl, Bool.and_self, Bool.true_and, Bool.and_true]))
namespace U
open PySem L2 DL RD UC
theorem none_of_le {st s : Sto} {p : Addr} (h : Le st s) (h2 : s p = none) : st p = none := by
  cases e : st p with
  | none => rfl
  | some m => rw [h _ _ e] at h2; cases h2
theorem le_upN {st s : Sto} {p : Addr} {m : MO} (hp : st p = none) (h : Le st s) : Le st (up s p m) := fun b z e => by
  have hb : b ≠ p := fun c => by rw [c, hp] at e; cases e
  rw [up_ne hb]
  exact h _ _ e
theorem cutD_butlast {α : Type} (xs : List α) (y : α) : cutD (xs ++ [y]) none (some (-1)) = xs := by
  unfold cutD
  have e1 : HT.sIx (xs ++ [y]).length 0 none = 0 := rfl
  have e2 : HT.sIx (xs ++ [y]).length (xs ++ [y]).length (some (-1)) = xs.length := by
    show (if (-1 : Int) < 0 then ((-1 : Int) + ((xs ++ [y]).length : Int)).toNat else min (-1 : Int).toNat (xs ++ [y]).length) = _
    rw [if_pos (by decide), List.length_append, List.length_singleton]
    omega
  rw [e1, e2, List.drop_zero, Nat.sub_zero, List.take_left]
def tabT (K : List (List Int)) : List (List Int × DV) := K.map fun a => (a, Bo true)
theorem keys_tabT (K : List (List Int)) : (tabT K).map (·.1) = K := by
  unfold tabT
  rw [List.map_map]
  exact List.map_id' _
theorem len_tabT (K : List (List Int)) : (tabT K).length = K.length := List.length_map ..
theorem put_tabT (K : List (List Int)) (a : List Int) : putT (tabT K) a (Bo true) = tabT (addA K a) := by
  unfold putT addA tabT
  rw [List.any_map]
  by_cases h : a ∈ K
  · rw [if_pos h, if_pos (List.any_eq_true.mpr ⟨a, h, decide_eq_true rfl⟩), List.map_map]
    refine List.map_congr_left fun b _ => ?_
    show (if b = a then (b, Bo true) else (b, Bo true)) = _
    split <;> rfl
  · rw [if_neg h, if_neg, List.map_append]
    · rfl
    · intro z
      obtain ⟨b, hb, e⟩ := List.any_eq_true.mp z
      exact h (of_decide_eq_true e ▸ hb)
def sp_is_whole : SpD := fun xs st Q => ∃ (G : List (List Int)) (n : Nat), xs = [.d (idl n G)] ∧ n ≤ 1000 ∧ Q (Bo (decide (G = [List.replicate n 0]))) st
theorem len_is_whole : ∀ xs st Q, sp_is_whole xs st Q → xs.length = 1 := by rintro xs st Q ⟨G, n, rfl, _⟩; rfl
theorem sem_is_whole : ∀ xs st Q, sp_is_whole xs st Q → rd_is_whole { nx := fun _ st' => Fg Q (.d .none) st', rt := Fg Q } (startD 1 xs) st := by
  rintro xs st Q ⟨G, n, rfl, hn, K⟩
  have e0 : startD 1 [.d (idl n G)] = [some (.d (idl n G))] := rfl
  rw [e0]
  unfold rd_is_whole
  walk_at "D"
  refine ⟨by decide, fun h => (nomatch h), by omega, by omega, by decide, ?_⟩
  walk_at "D"
  have zs : SeqAt.shaped (PyData.tuple [UC.TI (List.replicate n 0)]) = true := shaped_TT (a := [List.replicate n 0])
  have ze : PyData.eqv (UC.TT G) (PyData.tuple [UC.TI (List.replicate n 0)]) = decide (G = [List.replicate n 0]) := eqv_TT G [List.replicate n 0]
  refine ⟨by rw [sizeL]; decide, zs, ?_⟩
  rw [ze]
  exact fg_ret K
def sp_multiples : SpD := fun xs st Q => ∃ (G : List (List Int)) (n : Nat), xs = [I n, .d (TT G)] ∧ n ≤ 1000 ∧ G.length ≤ 10 ∧ NNs n G ∧ Q (.d (LT (mulD n G))) st
theorem len_multiples : ∀ xs st Q, sp_multiples xs st Q → xs.length = 2 := by rintro xs st Q ⟨G, n, rfl, _⟩; rfl
theorem sem_multiples : ∀ xs st Q, sp_multiples xs st Q → rd_multiples sp_lcm_of { nx := fun _ st' => Fg Q (.d .none) st', rt := Fg Q } (startD 5 xs) st := by
  rintro xs st Q ⟨G, n, rfl, hn, hl, hG, K⟩
  have e0 : startD 5 [I n, .d (TT G)] = [some (I n), some (.d (TT G)), none, none, none] := rfl
  rw [e0]
  unfold rd_multiples
  have len10 : ∀ i, (mulF n (G.take i)).length ≤ 1024 := fun i => Nat.le_trans (len_mulF n _) (Nat.le_trans (Nat.pow_le_pow_right (by decide) (show (G.take i).length ≤ 10 by rw [List.length_take]; omega)) (by decide))
  refine seq fun N hN => ?_
  walk_at "D"
  refine ⟨by decide, fun h => (nomatch h), by omega, by omega, by decide, ?_⟩
  walk_at "D"
  refine fun p hp => hN _ _ ?_; clear hN N
  refine seq fun N hN => ?_
  walk_at "D"
  rw [List.map_map]
  refine for_byT _ (fun i ε s => (∃ x3 x4, ε = [some (I n), some (.d (TT G)), some (.r p), x3, x4]) ∧ s p = some (.dT (tabD (tabT (mulF n (G.take i))))) ∧ ∀ b, b ≠ p → s b = st b) ⟨⟨_, _, rfl⟩, up_same, fun b hb => up_ne hb⟩ (fun _ _ _ _ => trivial) ?_ ?_
  · rintro i g ε s hi ⟨⟨x3, x4, rfl⟩, hs, fr⟩ L hL
    have hgm := List.mem_of_getElem? hi
    have hnx : mulF n (G.take (i + 1)) = stepF (mulF n (G.take i)) g := by
      rw [List.take_succ, hi]
      unfold mulF
      rw [List.foldl_append]
      rfl
    have hM : NNs n (mulF n (G.take i)) := nn_mulF fun x hx => hG x (List.mem_of_mem_take hx)
    have h1024 := len10 i
    generalize mulF n (G.take i) = M at hs hnx hM h1024
    walk_at "F"
    refine list_tab false _ hs ?_
    rw [keys_tabT]
    simp only [newL, datas_map]
    walk_at "D"
    rw [List.map_map]
    refine for_byT _ (fun j ε s' => (∃ x3 x4, ε = [some (I n), some (.d (TT G)), some (.r p), some (.d (TI g)), x4]) ∧ s' p = some (.dT (tabD (tabT (((M.take j).map fun m => lcmL m g).foldl addA M)))) ∧ ∀ b, b ≠ p → s' b = st b) ⟨⟨x3, x4, rfl⟩, hs, fr⟩ (fun _ _ _ _ => trivial) ?_ ?_
    · rintro j m ε s' hj ⟨⟨y3, y4, rfl⟩, hs', fr'⟩ L2 hL2
      have hmm := List.mem_of_getElem? hj
      have hnx2 : ((M.take (j + 1)).map fun m => lcmL m g).foldl addA M = addA (((M.take j).map fun m => lcmL m g).foldl addA M) (lcmL m g) := by
        rw [List.take_succ, hj, List.map_append, List.foldl_append]
        rfl
      have hlen : (((M.take j).map fun m => lcmL m g).foldl addA M).length ≤ 2048 := by
        refine Nat.le_trans (len_addAs _ _) ?_
        rw [List.length_map, List.length_take]
        omega
      generalize ((M.take j).map fun m => lcmL m g).foldl addA M = A at hs' hnx2 hlen
      walk_at "D"
      refine ⟨m, g, rfl, by rw [(hM m hmm).1]; exact hn, ?_⟩
      simp only [hs', dput_tab _ _ _ (show (tabT A).length < sizeLine by rw [len_tabT, sizeL]; omega)]
      refine hL2 _ _ ⟨⟨none, _, rfl⟩, ?_, fun b hb => by rw [up_ne hb]; exact fr' b hb⟩
      rw [up_same, hnx2]
      exact congrArg (fun z => some (MO.dT (tabD z))) (put_tabT A (lcmL m g))
    · rintro ε s' ⟨⟨y3, y4, rfl⟩, hs', fr'⟩
      rw [List.take_length] at hs'
      refine hL _ _ ⟨⟨_, _, rfl⟩, ?_, fr'⟩
      rw [hnx]
      exact hs'
  · rintro ε s ⟨⟨x3, x4, rfl⟩, hs, fr⟩
    refine hN _ _ ?_
    rw [List.take_length] at hs
    have hlen := len10 G.length
    rw [List.take_length] at hlen
    walk_at "F"
    simp only [qSortS]
    walk_at "F"
    refine list_tab false _ hs ?_
    rw [keys_tabT]
    simp only [newL, datas_map]
    walk_at "D"
    refine ⟨alike_TIs _, sortX_TIs _, by omega, depth_TIs, ?_⟩
    rw [sort_nodup (nodup_mulF n G)]
    walk_at "D"
    exact fg_le (le_up hp fr) K
theorem tab_eq (T : Tab) : (T.map fun t => (t.1.map Sum.inl, DV.d (.int t.2))) = tabD (vT T) := by
  unfold tabD vT
  rw [List.map_map]
  rfl
def sp_signs : SpD := fun xs st Q => ∃ (G : List (List Int)) (n : Nat), xs = [.d (idl n G)] ∧ n ≤ 8 ∧ G.length ≤ 10 ∧ NNs n G ∧ Q (.d (PT (sgL n G))) st
theorem len_signs : ∀ xs st Q, sp_signs xs st Q → xs.length = 1 := by rintro xs st Q ⟨G, n, rfl, _⟩; rfl
theorem len_mulD (n : Nat) (G : List (List Int)) (h : G.length ≤ 10) : (mulD n G).length ≤ 1024 := by
  rw [(listed_mulD n G).perm.length_eq]
  exact Nat.le_trans (len_mulF n G) (Nat.le_trans (Nat.pow_le_pow_right (by decide) h) (by decide))
theorem len_mo {L : List (List Int)} (h : L.Nodup) : (moZ L).length = L.length := by
  have := congrArg List.length (keys_mo L h)
  rw [← this]
  exact (List.length_map ..).symm
theorem sem_signs : ∀ xs st Q, sp_signs xs st Q → rd_signs sp_want_small sp_is_whole sp_multiples sp_divides { nx := fun _ st' => Fg Q (.d .none) st', rt := Fg Q } (startD 8 xs) st := by
  rintro xs st Q ⟨G, n, rfl, hn, hl, hG, K⟩
  have e0 : startD 8 [.d (idl n G)] = [some (.d (idl n G)), none, none, none, none, none, none, none] := rfl
  rw [e0]
  unfold rd_signs
  refine seq fun N hN => ?_
  walk_at "D"
  refine ⟨G, n, rfl, hn, hl, hN _ _ ?_⟩; clear hN N
  refine seq fun N hN => ?_
  walk_at "D"
  refine hN _ _ ?_; clear hN N
  refine seq fun N hN => ?_
  walk_at "D"
  refine ⟨G, n, rfl, by omega, ?_⟩
  walk_at "D"
  unfold sgL at K
  by_cases hw : G = [List.replicate n 0]
  · simp only [hw, decide_true, if_true] at K ⊢
    exact ⟨Nat.zero_le _, fg_ret K⟩
  simp only [if_neg hw] at K
  simp only [hw, decide_false, Bool.false_eq_true, if_false]
  refine hN _ _ ?_; clear hN N
  refine seq fun N hN => ?_
  walk_at "D"
  refine fun p hp => hN _ _ ?_; clear hN N
  refine seq fun N hN => ?_
  walk_at "D"
  refine ⟨G, n, rfl, by omega, hl, hG, ?_⟩
  have hlen := len_mulD n G hl
  have hnd := (listed_mulD n G).nodup
  have hnn := (listed_mulD n G).nn hG
  generalize mulD n G = L at hlen hnd hnn K
  walk_at "D"
  rw [List.map_map]
  refine for_byT _ (fun i ε s => Le st s ∧ (∃ x4 x5 x6 x7, ε = [some (.d (idl n G)), some (I n), some (.d (TT G)), some (.r p), x4, x5, x6, x7]) ∧ s p = some (.dT (tabD (vT (moZ (L.take i)))))) ⟨le_up1 hp, ⟨_, _, _, _, rfl⟩, up_same⟩ (fun _ _ _ _ => trivial) ?_ ?_
  · rintro i b ε s hi ⟨le, ⟨x4, x5, x6, x7, rfl⟩, hs⟩ R hR
    have hnx : moZ (L.take (i + 1)) = moS (moZ (L.take i)) b := by
      rw [List.take_succ, hi]
      exact mo_snoc _ _
    have hT : (moZ (L.take i)).length ≤ 1024 := by
      rw [len_mo ((List.take_sublist _ _).nodup hnd), List.length_take]
      omega
    generalize moZ (L.take i) = T at hs hnx hT
    refine seq fun N hN => ?_
    walk_at "D"
    simp only [hs]
    intro o ws
    walk_at "D"
    rw [items_vT]
    refine ⟨intKeys_tab _, ?_⟩
    refine ⟨by rw [List.length_map, List.length_map, sizeL]; omega, ?_⟩
    rw [List.map_map]
    refine comp_fmT _ (fun q : List Int × Int => divB q.1 b) (fun q => I q.2) (inv := fun s => s p = some (MO.lk o ws (tabD (vT T)))) up_same _ _ ?_ ?_
    · intro q hq Q1 Q2 h
      simp only [Function.comp, pairP]
      walk_at "D"
      refine ⟨q.1, b, rfl, ?_⟩
      walk_at "D"
      exact h
    have e1 : ([] : List DV) ++ (T.filter fun q => divB q.1 b).map (fun q => I q.2) = (((T.filter fun q => divB q.1 b).map (·.2)).map PyData.int).map DV.d := by
      rw [List.nil_append, List.map_map, List.map_map]
      rfl
    rw [e1]
    walk_at "D"
    rw [up_up, up_id hs]
    refine hN _ _ ?_; clear hN N
    walk_at "D"
    intro p1 hp1
    have hne : p ≠ p1 := fun e => by rw [e, hp1] at hs; cases hs
    have hz : (tabD (vT T)).length = T.length := by rw [len_tab, len_vT]
    simp only [qEmp, szD, up_same, up_ne hne, hs, hz]
    walk_at "D"
    simp only [up_ne hne, hs]
    have hl1 : T.length < sizeLine := by rw [sizeL]; omega
    have le1 : Le s (up s p1 (.dT [])) := le_up1 hp1
    have fin : ∀ (v : Int) x5, v = moN T b → R [some (.d (idl n G)), some (I n), some (.d (TT G)), some (.r p), some (.d (TI b)), x5, x6, x7] (up (up s p1 (.dT [])) p (.dT (tabD (vT (putZ T b v))))) := fun v x5 hv => by
      refine hR _ _ ⟨?_, ⟨_, _, _, _, rfl⟩, ?_⟩
      · exact le_upN hp (le.trans le1)
      · rw [up_same, hnx, hv]
        rfl
    have hsum := ev_below b T
    by_cases h0 : T.length = 0
    · simp only [h0, BEq.rfl, if_true]
      have e0 := dput_vT T b 1 hl1
      simp only [I_eq] at e0
      simp only [e0]
      exact fin 1 _ (by unfold moN; rw [if_pos h0])
    · have hb : (T.length == 0) = false := by simpa using h0
      simp only [hb, Bool.false_eq_true, if_false]
      have e0 := dput_vT T b (-((T.filter fun q => divB q.1 b).map fun x => x.2).sum) hl1
      simp only [I_eq] at e0
      simp only [e0]
      exact fin _ _ (by unfold moN; rw [if_neg h0, ← hsum])
  · rintro ε s ⟨le, ⟨x4, x5, x6, x7, rfl⟩, hs⟩
    rw [List.take_length] at hs
    refine hN _ _ ?_
    walk_at "D"
    simp only [qSortIt]
    refine ⟨moZ L, by rw [tab_eq]; exact hs, by rw [len_mo hnd]; omega, ?_⟩
    have e1 : ((moZ L).map pairI).mergeSort leD = (sortP (moZ L)).map pairP := sort_pairs _
    rw [e1]
    walk_at "D"
    exact fg_le le K
theorem at_last {α : Type} (f : α → PyData) (l : List α) (g : α) : atI (((l ++ [g]).map f).map DV.d) (-1) = some (.d (f g)) := by
  have e1 : ixN (l.length + 1) (-1) = some l.length := by
    unfold ixN
    simp
    try omega
  unfold atI
  simp [e1]
def sp_split_table : Nat → SpD := fun r xs st Q => ∃ (G : List (List Int)) (n : Nat), xs = [I n, .d (TT G)] ∧ G.length < r ∧ r ≤ 11 ∧ 1 ≤ n ∧ n ≤ 8 ∧ (∀ g ∈ G, Mon n 60 g) ∧
  ∀ p T st', NumT n G T → st p = none → Le st st' → st' p = some (.dT (tabD (vT T))) → Q (.r p) st'
theorem zero_split_table : ∀ xs st Q, ¬ sp_split_table 0 xs st Q := by rintro xs st Q ⟨G, n, rfl, h, _⟩; omega
theorem len_split_table : ∀ r xs st Q, sp_split_table r xs st Q → xs.length = 2 := by rintro r xs st Q ⟨G, n, rfl, _⟩; rfl
theorem sem_split_table : ∀ r xs st Q, sp_split_table (r + 1) xs st Q → rd_split_table (sp_split_table r) sp_cut sp_least_ones sp_times { nx := fun _ st' => Fg Q (.d .none) st', rt := Fg Q } (startD 9 xs) st := by
  rintro r xs st Q ⟨G, n, rfl, hl, hr, h1, hn, hG, K⟩
  have e0 : startD 9 [I n, .d (TT G)] = [some (I n), some (.d (TT G)), none, none, none, none, none, none, none] := rfl
  rw [e0]
  unfold rd_split_table
  refine seq fun N hN => ?_
  walk_at "D"
  by_cases hz : G = []
  · subst hz
    simp only [decide_true, if_true]
    walk_at "D"
    refine ⟨Nat.zero_le _, by rw [sizeL]; decide, fun h => (nomatch h), by omega, by omega, by decide, fun p hp => ?_⟩
    refine fg_ret (K p [(List.replicate n 0, 1)] _ (numT_nil n) hp (le_up1 hp) ?_)
    rw [up_same]
    rfl
  obtain ⟨H, g, rfl⟩ : ∃ H g, G = H ++ [g] := ⟨G.dropLast, G.getLast hz, (List.dropLast_concat_getLast hz).symm⟩
  simp only [hz, decide_false, Bool.false_eq_true, if_false]
  refine ⟨Nat.zero_le _, hN _ _ ?_⟩; clear hN N
  have nH : ∀ x ∈ H, Mon n 60 x := fun x hx => hG x (List.mem_append_left _ hx)
  have ng : Mon n 60 g := hG g (List.mem_append_right _ (List.mem_singleton.mpr rfl))
  have nnH : NNs n H := fun x hx => ⟨(nH x hx).1, fun y hy => ((nH x hx).2 y hy).1⟩
  have nng : NN n g := ⟨ng.1, fun y hy => (ng.2 y hy).1⟩
  have hlH : H.length < r := by rw [List.length_append] at hl; exact Nat.lt_of_succ_lt_succ hl
  refine seq fun N hN => ?_
  walk_at "D"
  simp only [at_last]
  walk_at "D"
  simp only [cutD_map, cutD_butlast]
  walk_at "D"
  refine ⟨by rw [sizeL]; decide, hN _ _ ?_⟩; clear hN N
  refine seq fun N hN => ?_
  walk_at "D"
  refine ⟨H, n, rfl, hlH, by omega, h1, hn, nH, fun p T s1 hT hp le1 hs1 => ?_⟩
  refine hN _ _ ?_; clear hN N
  refine seq fun N hN => ?_
  have hlS : H.length ≤ sizeLine := by rw [sizeL]; omega
  walk_at "D"
  refine ⟨hlS, ?_⟩
  rw [List.map_map]
  refine comp_mapT _ (fun a => DV.d (TI (cutL a g))) trivial _ _ ?_ ?_
  · intro a ha Q2 h2
    walk_at "D"
    exact ⟨a, g, rfl, by rw [(nH a ha).1]; omega, h2⟩
  rw [List.nil_append, show H.map (fun a => DV.d (TI (cutL a g))) = ((UC.cutS H g).map TI).map .d by unfold UC.cutS; rw [List.map_map, List.map_map]; rfl]
  walk_at "D"
  have mC : ∀ x ∈ UC.cutS H g, Mon n 60 x := fun x hx => by
    obtain ⟨a, ha, rfl⟩ := List.mem_map.mp hx
    have l2 := lenCut (nH a ha).1 ng.1
    refine ⟨l2, fun y hy => ?_⟩
    obtain ⟨j, hj, rfl⟩ := List.mem_iff_getElem.mp hy
    have hj2 : j < n := by omega
    rw [gd_eq hj]
    unfold cutL
    rw [gd_zw (nH a ha).1 ng.1 hj2]
    have b1 := (nH a ha).2 _ (gd_mem (show j < a.length by rw [(nH a ha).1]; exact hj2))
    have b2 := ng.2 _ (gd_mem (show j < g.length by rw [ng.1]; exact hj2))
    omega
  have lC : (UC.cutS H g).length = H.length := List.length_map ..
  refine ⟨_, UC.cutS H g, n, 60, rfl, rfl, ⟨h1, by omega, by omega, mC⟩, fun q s2 hq hs2 fr2 => ?_⟩
  simp only [hs2]
  walk_at "D"
  refine hN _ _ ?_; clear hN N
  have hqp : q ≠ p := fun e => by rw [e, hs1] at hq; cases hq
  have hs2p : s2 p = some (.dT (tabD (vT T))) := by rw [fr2 p hqp.symm]; exact hs1
  have le2 : Le st s2 := le1.trans (le_up hq fr2)
  have mM : ∀ x ∈ minL (UC.cutS H g), Mon n 60 x := fun x hx => mC x (min_sub x hx)
  have lM : (minL (UC.cutS H g)).length ≤ H.length := by rw [← lC]; exact min_len _
  refine seq fun N hN => ?_
  walk_at "D"
  simp only [qFrz]
  walk_at "D"
  refine ⟨minL (UC.cutS H g), n, rfl, by omega, by omega, h1, hn, mM, fun q2 T' s3 hT' hq2 le3 hs3 => ?_⟩
  simp only [hs3]
  intro o ws
  walk_at "D"
  refine ⟨intKeys_tab _, ?_⟩
  rw [items_vT, List.map_map]
  have hqq : q2 ≠ p := fun e => by rw [e, hs2p] at hq2; cases hq2
  have hs3p : s3 p = some (.dT (tabD (vT T))) := le3 _ _ hs2p
  have lT := hT.len
  have lT' := hT'.len
  have p1 : 2 ^ H.length ≤ 1024 := Nat.le_trans (Nat.pow_le_pow_right (by decide) (show H.length ≤ 10 by omega)) (by decide)
  have p2 : 2 ^ (minL (UC.cutS H g)).length ≤ 1024 := Nat.le_trans (Nat.pow_le_pow_right (by decide) (show (minL (UC.cutS H g)).length ≤ 10 by omega)) (by decide)
  refine for_byT _ (fun i ε s => Le st s ∧ (∃ y6 y7 y8, ε = [some (I n), some (.d (TT (H ++ [g]))), some (.d (TI g)), some (.d (TT H)), some (.r p), some (.d (TT (minL (UC.cutS H g)))), y6, y7, y8]) ∧ s q2 = some (MO.lk o ws (tabD (vT T'))) ∧ s p = some (.dT (tabD (vT ((T'.take i).foldl (splS g) T))))) ⟨le_upN (none_of_le le2 hq2) (le2.trans le3), ⟨_, _, _, rfl⟩, up_same, by rw [up_ne hqq.symm]; exact hs3p⟩ (fun _ _ _ h => h.2.2.1) ?_ ?_
  · rintro i m ε s hi ⟨le, ⟨y6, y7, y8, rfl⟩, hsq, hsp⟩ R hR
    have hmm := List.mem_of_getElem? hi
    have hnx : (T'.take (i + 1)).foldl (splS g) T = splS g ((T'.take i).foldl (splS g) T) m := by
      rw [List.take_succ, hi, List.foldl_append]
      rfl
    have hlen : ((T'.take i).foldl (splS g) T).length ≤ 2048 := by
      rw [keys_len, keys_spl]
      refine Nat.le_trans (len_addAs _ _) ?_
      rw [List.length_map, List.length_map, List.length_take]
      omega
    generalize (T'.take i).foldl (splS g) T = A at hsp hnx hlen
    simp only [Function.comp, pairP]
    walk_at "D"
    refine seq fun N2 hN2 => ?_
    walk_at "D"
    refine ⟨m.1, g, rfl, by rw [(hT'.nn m hmm).1]; omega, ?_⟩
    refine hN2 _ _ ?_
    walk_at "D"
    obtain ⟨o, e1, e2⟩ := look_vT A (mulL m.1 g)
    simp only [hsp, isDM, e1, e2]
    walk_at "D"
    simp only [dput_vT A _ _ (show A.length < sizeLine by rw [sizeL]; omega)]
    refine hR _ _ ⟨le_upN hp le, ⟨_, _, _, rfl⟩, by rw [up_ne hqq]; exact hsq, ?_⟩
    rw [up_same, hnx]
    rfl
  · rintro ε s ⟨le, ⟨y6, y7, y8, rfl⟩, hsq, hsp⟩
    rw [List.take_length] at hsp
    refine hN _ _ ?_
    walk_at "D"
    exact fg_ret (K p _ s (numT_step nnH nng hT hT') hp le hsp)
def sp_numerator_by_splitting : SpD := fun xs st Q => ∃ (G : List (List Int)) (n : Nat), xs = [.d (idl n G)] ∧ 1 ≤ n ∧ Small n G ∧ Q (.d (PT (numL n G))) st
theorem len_numerator_by_splitting : ∀ xs st Q, sp_numerator_by_splitting xs st Q → xs.length = 1 := by rintro xs st Q ⟨G, n, rfl, _⟩; rfl
theorem sem_numerator_by_splitting : ∀ xs st Q, sp_numerator_by_splitting xs st Q → rd_numerator_by_splitting sp_want_small (sp_split_table 11) sp_as_pairs { nx := fun _ st' => Fg Q (.d .none) st', rt := Fg Q } (startD 1 xs) st := by
  rintro xs st Q ⟨G, n, rfl, h1, hG, K⟩
  have e0 : startD 1 [.d (idl n G)] = [some (.d (idl n G))] := rfl
  rw [e0]
  unfold rd_numerator_by_splitting
  have hn := hG.1
  have hl := hG.2.1
  refine seq fun N hN => ?_
  walk_at "D"
  refine ⟨G, n, rfl, hn, hl, hN _ _ ?_⟩; clear hN N
  walk_at "D"
  refine ⟨G, n, rfl, by omega, by decide, h1, hn, hG.2.2, fun p T s1 hT hp le hs => ?_⟩
  walk_at "D"
  have p1 : 2 ^ G.length ≤ 1024 := Nat.le_trans (Nat.pow_le_pow_right (by decide) hl) (by decide)
  have := hT.len
  refine ⟨p, T, rfl, hs, by omega, ?_⟩
  rw [hT.can hG.nns]
  exact fg_le le K
end U
end
section
set_option Elab.async false
set_option linter.all false
set_option maxRecDepth 100000
set_option maxHeartbeats 1000000
namespace UC
open PySem L2 DL RD
def mvP (f : List Int) (s : Int) (p : List Int × Int) : List Int × Int := (mulL p.1 f, s * p.2)
def addedZ (R O : Tab) (f : List Int) (s : Int) : Tab := (R ++ O.map (mvP f s)).foldl addZ []
theorem ev_mv (g : List Int → Int) (f : List Int) (s : Int) : ∀ O : Tab, evT g (O.map (mvP f s)) = s * evT (fun a => g (mulL a f)) O
  | [] => by rw [List.map_nil, evT, evT, Int.mul_zero]
  | p :: O => by
    rw [List.map_cons, evT, evT, ev_mv g f s O, Int.mul_add, ← Int.mul_assoc]
    rfl
theorem ev_added (g : List Int → Int) (R O : Tab) (f : List Int) (s : Int) : evT g (addedZ R O f s) = evT g R + s * evT (fun a => g (mulL a f)) O := by
  unfold addedZ
  rw [(ev_adds g _ [] List.nodup_nil).1, ev_app, ev_mv]
  show 0 + _ = _
  omega
theorem kn_added (R O : Tab) (f : List Int) (s : Int) : KN (addedZ R O f s) := (ev_adds (fun _ => 0) _ [] List.nodup_nil).2
theorem nn_added {n : Nat} {R O : Tab} {f : List Int} (hR : ∀ p ∈ R, NN n p.1) (hO : ∀ p ∈ O, NN n p.1) (hf : NN n f) (s : Int) : ∀ p ∈ addedZ R O f s, NN n p.1 := fun p hp => by
  have hk : p.1 ∈ keysZ (addedZ R O f s) := List.mem_map.mpr ⟨p, hp, rfl⟩
  unfold addedZ at hk
  rw [keys_adds] at hk
  rcases mem_addAs.mp hk with hk | hk
  · cases hk
  · obtain ⟨q, hq, e⟩ := List.mem_map.mp hk
    rw [← e]
    rcases List.mem_append.mp hq with hq | hq
    · exact hR q hq
    · obtain ⟨r, hr, rfl⟩ := List.mem_map.mp hq
      exact nn_mul (hO r hr) hf
theorem len_added (R O : Tab) (f : List Int) (s : Int) : (addedZ R O f s).length ≤ R.length + O.length := by
  have e1 : (addedZ R O f s).length = (keysZ (addedZ R O f s)).length := (List.length_map ..).symm
  rw [e1]
  unfold addedZ
  rw [keys_adds]
  refine Nat.le_trans (len_addAs _ _) ?_
  simp
theorem mul_one' {n : Nat} {a : List Int} (ha : a.length = n) : mulL a (List.replicate n 0) = a := by
  refine (gd_ext (lenMul ha (List.length_replicate ..)) ha).mpr fun j hj => ?_
  unfold mulL
  rw [gd_zw ha (List.length_replicate ..) hj, gd_rep hj, Int.add_zero]
section
variable {n : Nat} {A B : List (List Int)}
theorem nn_num (hA : NNs n A) : ∀ p ∈ numL n A, NN n p.1 := (canon_num hA).nn
theorem ev_one (hA : NNs n A) (b : List Int) (hb : NN n b) : evT (fun a => chi b (mulL a (List.replicate n 0))) (numL n A) = chiI A b := by
  rw [← ev_num hA hb]
  exact ev_cong fun p hp => by rw [mul_one' (nn_num hA p hp).1]
theorem nns_app (hA : NNs n A) (hB : NNs n B) : NNs n (minL (A ++ B)) := fun x hx => (List.mem_append.mp (min_sub x hx)).elim (hA x) (hB x)
theorem nns_meet (hA : NNs n A) (hB : NNs n B) : NNs n (minL (pairL lcmL A B)) := fun x hx => by
  obtain ⟨a, ha, b, hb, rfl⟩ := mem_pairL.mp (min_sub x hx)
  exact nn_lcm (hA a ha) (hB b hb)
theorem nns_cut {f : List Int} (hA : NNs n A) (hf : NN n f) : NNs n (minL (cutS A f)) := fun x hx => by
  obtain ⟨a, ha, rfl⟩ := List.mem_map.mp (min_sub x hx)
  exact nn_cut (hA a ha) hf
/-- sum and meet -/
theorem added_two (hA : NNs n A) (hB : NNs n B) : canZ (addedZ (numL n (minL (A ++ B))) (numL n (minL (pairL lcmL A B))) (List.replicate n 0) 1) = canZ (addedZ (numL n A) (numL n B) (List.replicate n 0) 1) := by
  have hS := nns_app hA hB
  have hM := nns_meet hA hB
  refine canon_uniq (canon_canZ (kn_added _ _ _ _) (nn_added (nn_num hS) (nn_num hM) nn_zero 1)) (canon_canZ (kn_added _ _ _ _) (nn_added (nn_num hA) (nn_num hB) nn_zero 1)) fun b hb => ?_
  rw [ev_canZ, ev_canZ, ev_added, ev_added, ev_one hM b hb, ev_one hB b hb, ev_num hS hb, ev_num hA hb]
  have := chi_two hA hB hb
  omega
theorem chi_min {G : List (List Int)} (hG : NNs n G) {b : List Int} (hb : NN n b) : chiI (minL G) b = chiI G b := by
  unfold chiI
  have : inL (minL G) b = inL G b := by
    rw [Bool.eq_iff_iff, in_min hG.len hb.1, inL_iff]
  rw [this]
/-- a monomial more -/
theorem added_last {f : List Int} (hA : NNs n A) (hf : NN n f) : canZ (addedZ (numL n A) (numL n (minL (cutS A f))) f (-1)) = numL n (minL (A ++ [f])) := by
  have hC := nns_cut hA hf
  have hW : NNs n (A ++ [f]) := fun x hx => (List.mem_append.mp hx).elim (hA x) fun h => by rw [List.mem_singleton.mp h]; exact hf
  refine num_eq (fun x hx => hW x (min_sub x hx)) (canon_canZ (kn_added _ _ _ _) (nn_added (nn_num hA) (nn_num hC) hf (-1))) fun b hb => ?_
  rw [ev_canZ, ev_added, ev_num hA hb, chi_min hW hb, ← chi_last hA hf hb (nn_num hC) fun c hc => ev_num hC hc]
  omega
/-- counted in a box -/
theorem box_deg (n d : Nat) (G : List (List Int)) : ((boxL (List.replicate n (d : Int))).filter fun a => decide (a.sum = (d : Int)) && !inL G a).length = leftN n G d := by
  rw [show ((boxL (List.replicate n (d : Int))).filter fun a => decide (a.sum = (d : Int)) && !inL G a) = (((boxL (List.replicate n (d : Int))).filter fun a => decide (a.sum = (d : Int))).filter fun a => !inL G a) by
    rw [List.filter_filter]
    exact List.filter_congr fun a _ => Bool.and_comm _ _]
  have hp : ((boxL (List.replicate n (d : Int))).filter fun a => decide (a.sum = (d : Int))).Perm (degR n d) := by
    refine (List.perm_ext_iff_of_nodup ((List.filter_sublist).nodup (nodup_boxL _)) (nodup_degR n d)).mpr fun a => ?_
    rw [List.mem_filter, mem_degR, mem_boxL, List.length_replicate, decide_eq_true_eq]
    constructor
    · rintro ⟨⟨h1, h2⟩, h3⟩
      exact ⟨nn_of_gd h1 fun j hj => (h2 j hj).1, h3⟩
    · rintro ⟨h1, h2⟩
      refine ⟨⟨h1.1, fun j hj => ⟨h1.at hj, ?_⟩⟩, h2⟩
      rw [gd_rep hj]
      have hm : gd a j ∈ a := gd_mem (by rw [h1.1]; exact hj)
      have : ∀ (a : List Int), (∀ x ∈ a, 0 ≤ x) → ∀ y ∈ a, y ≤ a.sum := by
        intro a
        induction a with
        | nil => exact fun _ y hy => nomatch hy
        | cons x a ih =>
          intro h y hy
          have h0 := h x List.mem_cons_self
          have hs := nn_sum (n := a.length) (a := a) ⟨rfl, fun z hz => h z (List.mem_cons_of_mem _ hz)⟩
          rw [List.sum_cons]
          rcases List.mem_cons.mp hy with rfl | hy
          · omega
          · have := ih (fun z hz => h z (List.mem_cons_of_mem _ hz)) y hy
            omega
      have := this a h1.2 _ hm
      omega
  exact (hp.filter _).length_eq
end
end UC
end
section
set_option Elab.async false
set_option linter.all false
set_option maxRecDepth 100000
set_option maxHeartbeats 1000000
open PySem L2 DL RD UC
local macro_rules | `(tactic| walk_at "E") => `(tactic| (try simp only [qAsg, qRet, qDrop, qIfS, qTest, qAndT, qOrT, qNotT, qAndV, qOrV, qNotV, qIf, qOp, qUn, qChain, onB, qv, qc, qgN, qgT, qgCons, qgNil, qCons, qNil, qTup, qLst, qPar, qPar3, qAug, qCB, qCall, qLen, qTupleC, qListC, qMax2, qMin2, qIntC, qSum, qAny, qAll, qIsi, tyName, qAdd, qSub, qMul, qFdiv, qMod, qPow, qI2, qCmpI, qEq, qNe, qLt, qLe, qGt, qGe, qNeg, qIx, qDGet, qDIn, qDPut, qSl, qPart, qNoPart, qNext, qFor, qiSeq, qiRng1, qiRng2, qiZip, qiEnum, qLc, seqSrc, lsrc, titems, litems, sitems, fz, newL, List.getElem?_cons_zero, List.getElem?_cons_succ, List.set_cons_zero, List.set_cons_succ, if_true, if_false, Bool.false_eq_true, ite_true, ite_false, up_same, reduceIte, decide_true, decide_false, true_and, and_true]))
local macro_rules | `(tactic| walk_at "D") => `(tactic| (try simp only [qAsg, qRet, qDrop, qIfS, qTest, qAndT, qOrT, qNotT, qAndV, qOrV, qNotV, qIf, qOp, qUn, qChain, onB, qv, qc, qgN, qgT, qgCons, qgNil, qCons, qNil, qTup, qLst, qPar, qPar3, qAug, qCB, qCall, qLen, qTupleC, qListC, qMax2, qMin2, qIntC, qSum, qAny, qAll, qIsi, tyName, qAdd, qSub, qMul, qFdiv, qMod, qPow, qI2, qCmpI, qEq, qNe, qLt, qLe, qGt, qGe, qNeg, qIx, qDGet, qDIn, qDPut, qSl, qPart, qNoPart, qNext, qFor, qiSeq, qiRng1, qiRng2, qiZip, qiEnum, qLc, seqSrc, lsrc, titems, litems, sitems, fz, newL, List.getElem?_cons_zero, List.getElem?_cons_succ, List.set_cons_zero, List.set_cons_succ, if_true, if_false, Bool.false_eq_true, ite_true, ite_false, up_same, reduceIte, decide_true, decide_false, true_and, and_true, eqv_int, eqv_bool, eqv_TI, eqv_LI, eqv_TT, eqv_LT, eqv_nilL, eqv_nilT, shaped_TI, shaped_LI, shaped_TT, shaped_LT, shaped_int, shaped_bool, shaped_nilL, shaped_nilT, dints_map2, dbools_map2, datas_map, mkT_map, mkT_0, mkT_1, mkT_2, mkT_3, List.length_map, List.length_cons, List.length_nil, List.length_append, List.map_cons, List.map_nil, wipeD, Bool.not_true, Bool.not_false, eq_self, not_true_eq_false, not_false_eq_true, kitB_tt, kitB_ll, kitB_dd, kitB_bb, kitB_ib, kitB_ii, kitB_ss, kitB_tl, kitB_lt, Function.comp, datas, Option.map_some, List.cons_append, List.nil_append, CPow, le_size4, Int.toNat_natCast, rngD0, I_eq, Bo_eq, BS.qSortB, in_IT, in_IL, in_TT, in_TL, qNotN, qIsN, qSortD, qListRg, qDispT, keyX_TI, qGet, qiItems, qLockE, qLockS, qPop, qMaxDf, qLPut, qDNew, qListItems, qListDK, qLc2, qMax1, qMin1, qAppend, qExtend, tints_TI, dv_TI, Option.bind_some, qRetN, atI_0, atI_1, atI_2, mk_appT, mk_snocI, idl, rep_I, Option.map_none, eqv_idl, shaped_idl, Bool.and_self, Bool.true_and, Bool.and_true]))
local macro_rules | `(tactic| walk_at "F") => `(tactic| (try simp only [qAsg, qRet, qDrop, qIfS, qTest, qAndT, qOrT, qNotT, qAndV, qOrV, qNotV, qIf, qOp, qUn, qChain, onB, qv, qc, qgN, qgT, qgCons, qgNil, qCons, qNil, qTup, qLst, qPar, qPar3, qAug, qCB, qCall, qLen, qTupleC, qListC, qMax2, qMin2, qIntC, qSum, qAny, qAll, qIsi, tyName, qAdd, qSub, qMul, qFdiv, qMod, qPow, qI2, qCmpI, qEq, qNe, qLt, qLe, qGt, qGe, qNeg, qIx, qDGet, qDIn, qDPut, qSl, qPart, qNoPart, qNext, qFor, qiRng1, qiRng2, qiZip, qiEnum, qLc, fz, newL, List.getElem?_cons_zero, List.getElem?_cons_succ, List.set_cons_zero, List.set_cons_succ, if_true, if_false, Bool.false_eq_true, ite_true, ite_false, up_same, reduceIte, decide_true, decide_false, true_and, and_true, eqv_int, eqv_bool, eqv_TI, eqv_LI, eqv_TT, eqv_LT, eqv_nilL, eqv_nilT, shaped_TI, shaped_LI, shaped_TT, shaped_LT, shaped_int, shaped_bool, shaped_nilL, shaped_nilT, dints_map2, dbools_map2, datas_map, mkT_map, mkT_0, mkT_1, mkT_2, mkT_3, List.length_map, List.length_cons, List.length_nil, List.length_append, List.map_cons, List.map_nil, wipeD, Bool.not_true, Bool.not_false, eq_self, not_true_eq_false, not_false_eq_true, kitB_tt, kitB_ll, kitB_dd, kitB_bb, kitB_ib, kitB_ii, kitB_ss, kitB_tl, kitB_lt, Function.comp, datas, Option.map_some, List.cons_append, List.nil_append, CPow, le_size4, Int.toNat_natCast, rngD0, I_eq, Bo_eq, BS.qSortB, in_IT, in_IL, in_TT, in_TL, qNotN, qIsN, qSortD, qListRg, qDispT, keyX_TI, qGet, qiItems, qLockE, qLockS, qPop, qMaxDf, qLPut, qDNew, qListItems, qListDK, qLc2, qMax1, qMin1, qAppend, qExtend, tints_TI, dv_TI, Option.bind_some, qRetN, atI_0, atI_1, atI_2, mk_appT, mk_snocI, idl, rep_I, Option.map_none, eqv_idl, shaped_idl, Bool.and_self, Bool.true_and, Bool.and_true]))
namespace U
open PySem L2 DL RD UC
theorem cutD_all {α : Type} (xs : List α) (k : Nat) (h : xs.length ≤ k) : cutD xs none (some (k : Int)) = xs := by
  unfold cutD
  rw [HT.sIx_nat, HT.sIx_none, Nat.min_eq_right h, Nat.sub_zero, List.drop_zero, List.take_length]
def sp_law_small : SpD := fun xs st Q => ∃ (a : Addr) (n cnt : Nat) (top : Int) (B : Nat), xs = [.r a, I n, I cnt, I top] ∧ 1 ≤ n ∧ n ≤ 100 ∧ cnt ≤ 60 ∧ 0 ≤ top ∧ top < 2 ^ 29 ∧ B + 20000 < 2 ^ 50 ∧ DrawSt st a B ∧
  ∀ (L : List (List Int)) st', Idl n top cnt L → DrawSt st' a (B + 20000) → (∀ b, b ≠ a → st' b = st b) → Q (.d (idl n L)) st'
theorem len_law_small : ∀ xs st Q, sp_law_small xs st Q → xs.length = 4 := by rintro xs st Q ⟨a, n, c, w, B, rfl, _⟩; rfl
theorem sem_law_small : ∀ xs st Q, sp_law_small xs st Q → rd_law_small sp_law_ideal { nx := fun _ st' => Fg Q (.d .none) st', rt := Fg Q } (startD 5 xs) st := by
  rintro xs st Q ⟨a, n, cnt, top, B, rfl, h1, h2, h3, h4, h5, hB, D, K⟩
  have e0 : startD 5 [.r a, I n, I cnt, I top] = [some (.r a), some (I n), some (I cnt), some (I top), none] := rfl
  rw [e0]
  unfold rd_law_small
  refine seq fun N hN => ?_
  walk_at "D"
  refine ⟨a, n, cnt, top, B, rfl, h1, h2, h3, h4, h5, hB, D, fun L s hL _ D1 fr => hN _ _ ?_⟩; clear hN N
  walk_at "D"
  rw [cutD_all _ _ (by simp only [List.length_map]; exact hL.2.1)]
  walk_at "D"
  exact ⟨by decide, fg_ret (K L s hL D1 fr)⟩
theorem look_lk (T : Tab) (o : Obj) (ws : List (List Key × V)) {a : List Int} (h : a ∈ keysZ T) : dlook (some (.lk o ws (tabD (vT T)))) (.d (TI a)) = some (some (I (getZ T a))) := by
  show (match titems (.d (TI a)) with | some ys => (keyT ys).map fun q => lookD (tabD (vT T)) q | none => none) = _
  rw [show titems (.d (TI a)) = some ((a.map PyData.int).map DV.d) from rfl]
  show ((keyT ((a.map PyData.int).map DV.d)).map fun q => lookD (tabD (vT T)) q) = _
  rw [keyT_ints]
  show some (lookD (tabD (vT T)) (a.map Sum.inl)) = _
  congr 1
  unfold lookD tabD vT
  rw [List.map_map]
  induction T with
  | nil => cases h
  | cons p T ih =>
    rw [List.map_cons, List.find?_cons]
    show (Option.map _ (match decide ((p.1.map Sum.inl : List Key) = a.map Sum.inl) with | true => _ | false => _)) = _
    rw [dec_inl, getZ]
    by_cases e : p.1 = a
    · rw [decide_eq_true e, if_pos e]
      rfl
    · rw [decide_eq_false e, if_neg e]
      exact ih ((List.mem_cons.mp h).resolve_left fun z => e z.symm)
theorem get_mem : ∀ {T : Tab} (_ : KN T) {p : List Int × Int}, p ∈ T → getZ T p.1 = p.2
  | q :: T, h, p, hp => by
    obtain ⟨h1, h2⟩ := List.nodup_cons.mp h
    rw [getZ]
    rcases List.mem_cons.mp hp with rfl | hp
    · rw [if_pos rfl]
    · rw [if_neg fun e => h1 (List.mem_map.mpr ⟨p, hp, e.symm⟩)]
      exact get_mem h2 hp
theorem mem_keyZ {T : Tab} {p : List Int × Int} (hp : p ∈ T) : p.1 ∈ keysZ T := List.mem_map.mpr ⟨p, hp, rfl⟩
theorem keys_items (T : Tab) : (keysD (tabD (vT T))).map tupD = T.map (fun p => DV.d (TI p.1)) := by
  rw [keys_tab, tups_dv, keys_vT]
  unfold keysZ
  rw [List.map_map, List.map_map]
  rfl
theorem idl_small {n c : Nat} {w : Int} {A : List (List Int)} (h : Idl n w c A) (hn : n ≤ 8) (hw : w ≤ 60) (hc : A.length ≤ 10) : Small n A := ⟨hn, hc, fun g hg => (h.2.2 g hg).mono hw⟩
theorem left_pt {n : Nat} {A B : List (List Int)} (hA : NNs n A) (hB : NNs n B) (d : Nat) : (leftN n (minL (A ++ B)) d : Int) + leftN n (minL (pairL lcmL A B)) d = leftN n A d + leftN n B d := by
  have := left_two hA hB d
  omega
def sp_law_added : SpD := fun xs st Q => ∃ (R O : Tab) (f : List Int) (s : Int) (n : Nat), xs = [.d (PT R), .d (PT O), .d (TI f), I s] ∧ n ≤ 1000 ∧ f.length = n ∧ (∀ p ∈ O, p.1.length = n) ∧ R.length ≤ 1024 ∧ O.length ≤ 1024 ∧ (s = 1 ∨ s = -1) ∧ Q (.d (PT (canZ (addedZ R O f s)))) st
theorem len_law_added : ∀ xs st Q, sp_law_added xs st Q → xs.length = 4 := by rintro xs st Q ⟨R, O, f, s, n, rfl, _⟩; rfl
theorem take_len {α : Type} {l : List α} {i : Nat} {x : α} (h : l[i]? = some x) : l.take (i + 1) = l.take i ++ [x] := by rw [List.take_succ, h]; rfl
theorem len_adds (ps : Tab) : (ps.foldl addZ []).length ≤ ps.length := by
  rw [keys_len, keys_adds]
  refine Nat.le_trans (len_addAs _ _) ?_
  simp
theorem sem_law_added : ∀ xs st Q, sp_law_added xs st Q → rd_law_added sp_law_times { nx := fun _ st' => Fg Q (.d .none) st', rt := Fg Q } (startD 8 xs) st := by
  rintro xs st Q ⟨R, O, f, s, n, rfl, hn, hf, hO, hR1, hO1, hs1, K⟩
  have hc : ∀ x : Int, CMulA s x := fun x => by
    rcases hs1 with rfl | rfl
    · exact .inl (.inl (by decide))
    · exact .inl (.inl (by decide))
  clear hs1
  have e0 : startD 8 [.d (PT R), .d (PT O), .d (TI f), I s] = [some (.d (PT R)), some (.d (PT O)), some (.d (TI f)), some (I s), none, none, none, none] := rfl
  rw [e0]
  unfold rd_law_added
  refine seq fun N hN => ?_
  walk_at "D"
  refine fun p hp => hN _ _ ?_; clear hN N
  refine seq fun N hN => ?_
  walk_at "D"
  rw [List.map_map]
  refine for_byT _ (fun i ε s' => (∃ y5 y6, ε = [some (.d (PT R)), some (.d (PT O)), some (.d (TI f)), some (I s), some (.r p), y5, y6, none]) ∧ s' p = some (.dT (tabD (vT ((R.take i).foldl addZ [])))) ∧ ∀ b, b ≠ p → s' b = st b) ⟨⟨_, _, rfl⟩, up_same, fun b hb => up_ne hb⟩ (fun _ _ _ _ => trivial) ?_ ?_
  · rintro i m ε s' hi ⟨⟨y5, y6, rfl⟩, hs, fr⟩ L hL
    have hnx : (R.take (i + 1)).foldl addZ [] = addZ ((R.take i).foldl addZ []) m := by
      rw [take_len hi, List.foldl_append]
      rfl
    have hlen : ((R.take i).foldl addZ []).length ≤ 1024 := Nat.le_trans (len_adds _) (by rw [List.length_take]; omega)
    generalize (R.take i).foldl addZ [] = T at hs hnx hlen
    simp only [Function.comp, pairP]
    walk_at "D"
    obtain ⟨o, e1, e2⟩ := look_vT T m.1
    simp only [hs, isDM, e1, e2]
    walk_at "D"
    simp only [dput_vT T _ _ (show T.length < sizeLine by rw [sizeL]; omega)]
    refine hL _ _ ⟨⟨_, _, rfl⟩, ?_, fun b hb => by rw [up_ne hb]; exact fr b hb⟩
    rw [up_same, hnx]
    rfl
  rintro ε s1 ⟨⟨y5, y6, rfl⟩, hs1, fr1⟩
  rw [List.take_length] at hs1
  refine hN _ _ ?_; clear hN N
  refine seq fun N hN => ?_
  walk_at "D"
  rw [List.map_map]
  refine for_byT _ (fun i ε s' => (∃ y5 y6 y7, ε = [some (.d (PT R)), some (.d (PT O)), some (.d (TI f)), some (I s), some (.r p), y5, y6, y7]) ∧ s' p = some (.dT (tabD (vT (((O.take i).map (mvP f s)).foldl addZ (R.foldl addZ []))))) ∧ ∀ b, b ≠ p → s' b = st b) ⟨⟨_, _, _, rfl⟩, hs1, fr1⟩ (fun _ _ _ _ => trivial) ?_ ?_
  · rintro i m ε s' hi ⟨⟨y5, y6, y7, rfl⟩, hs, fr⟩ L hL
    have hmO := List.mem_of_getElem? hi
    have hnx : ((O.take (i + 1)).map (mvP f s)).foldl addZ (R.foldl addZ []) = addZ (((O.take i).map (mvP f s)).foldl addZ (R.foldl addZ [])) (mvP f s m) := by
      rw [take_len hi, List.map_append, List.foldl_append]
      rfl
    have hlen : (((O.take i).map (mvP f s)).foldl addZ (R.foldl addZ [])).length ≤ 2048 := by
      rw [← List.foldl_append]
      refine Nat.le_trans (len_adds _) ?_
      rw [List.length_append, List.length_map, List.length_take]
      omega
    generalize ((O.take i).map (mvP f s)).foldl addZ (R.foldl addZ []) = T at hs hnx hlen
    simp only [Function.comp, pairP]
    walk_at "D"
    refine seq fun N2 hN2 => ?_
    walk_at "D"
    refine ⟨m.1, f, n, rfl, hO m hmO, hf, hn, ?_⟩
    refine hN2 _ _ ?_
    walk_at "D"
    obtain ⟨o, e1, e2⟩ := look_vT T (mulL m.1 f)
    simp only [hs, isDM, e1, e2]
    walk_at "D"
    simp only [dput_vT T _ _ (show T.length < sizeLine by rw [sizeL]; omega)]
    refine ⟨hc _, ?_⟩
    refine hL _ _ ⟨⟨_, _, _, rfl⟩, ?_, fun b hb => by rw [up_ne hb]; exact fr b hb⟩
    rw [up_same, hnx]
    rfl
  rintro ε s2 ⟨⟨y5, y6, y7, rfl⟩, hs, fr⟩
  rw [List.take_length, ← List.foldl_append] at hs
  refine hN _ _ ?_; clear hN N
  have hkn := kn_added R O f s
  have hT : (addedZ R O f s).length ≤ 2048 := Nat.le_trans (len_added R O f s) (by omega)
  change s2 p = some (.dT (tabD (vT (addedZ R O f s)))) at hs
  generalize addedZ R O f s = T at hs hkn hT K
  walk_at "D"
  simp only [hs]
  intro o ws
  simp only [qiKeysT]
  walk_at "D"
  refine ⟨intKeys_tab _, ?_⟩
  rw [keys_items]
  refine ⟨by rw [keys_tab, List.length_map, len_vT, sizeL]; omega, ?_⟩
  refine comp_fmT _ (fun q : List Int × Int => decide (q.2 ≠ 0)) (fun q => .d (pairP q)) (inv := fun s => s p = some (MO.lk o ws (tabD (vT T)))) up_same _ _ ?_ ?_
  · intro q hq Q1 Q2 h
    walk_at "D"
    simp only [look_lk T o ws (mem_keyZ hq), get_mem hkn hq]
    walk_at "D"
    by_cases c : q.2 = 0
    · simp only [c, decide_true, Bool.not_true, Bool.false_eq_true, if_false, ne_eq, not_true_eq_false, decide_false] at h ⊢
      exact h
    · simp only [c, decide_false, Bool.not_false, if_true, ne_eq, not_false_eq_true, decide_true] at h ⊢
      exact ⟨by rw [sizeL]; decide, h⟩
  have e1 : ([] : List DV) ++ (T.filter fun p => decide (p.2 ≠ 0)).map (fun p => DV.d (pairP p)) = ((T.filter fun p => decide (p.2 ≠ 0)).map pairP).map DV.d := by
    rw [List.nil_append, List.map_map]
    rfl
  rw [e1]
  walk_at "D"
  have hf : (T.filter fun p => decide (p.2 ≠ 0)).length ≤ T.length := List.length_filter_le _ _
  refine ⟨alike_pairs _, sortX_pairs _, by omega, depth_pairs, ?_⟩
  rw [sort_pairs, up_up, up_id hs]
  exact fg_le (le_up hp fr) K
def sp_ideal_of : SpD := fun xs st Q => ∃ (x : DV) (ts : List (List Int)) (n : Nat), xs = [I n, .d (LT ts)] ∧ OkS n 60 ts ∧ (minL ts).length ≤ 60 ∧ Q (.d (idl n (minL ts))) st
theorem len_ideal_of : ∀ xs st Q, sp_ideal_of xs st Q → xs.length = 2 := by rintro xs st Q ⟨a, ts, n, rfl, _⟩; rfl
theorem sem_ideal_of : ∀ xs st Q, sp_ideal_of xs st Q → rd_ideal_of sp_made { nx := fun _ st' => Fg Q (.d .none) st', rt := Fg Q } (startD 2 xs) st := by
  rintro xs st Q ⟨x, ts, n, rfl, ok, hl, K⟩
  have e0 : startD 2 [I n, .d (LT ts)] = [some (I n), some (.d (LT ts))] := rfl
  rw [e0]
  unfold rd_ideal_of
  walk_at "D"
  exact ⟨_, ts, n, rfl, rfl, ok, hl, fg_ret K⟩
def sp_law_count : SpD := fun xs st Q => ∃ (n d : Nat) (A : List (List Int)), xs = [I n, .d (TT A), I d] ∧ n ≤ 3 ∧ d ≤ 9 ∧ NNs n A ∧ A.length ≤ 1000 ∧ Q (I (leftN n A d : Int)) st
theorem len_law_count : ∀ xs st Q, sp_law_count xs st Q → xs.length = 3 := by rintro xs st Q ⟨n, d, A, rfl, _⟩; rfl
theorem sem_law_count : ∀ xs st Q, sp_law_count xs st Q → rd_law_count sp_law_box sp_law_in { nx := fun _ st' => Fg Q (.d .none) st', rt := Fg Q } (startD 5 xs) st := by
  rintro xs st Q ⟨n, d, A, rfl, hn, hd, hA, hl, K⟩
  have e0 : startD 5 [I n, .d (TT A), I d] = [some (I n), some (.d (TT A)), some (I d), none, none] := rfl
  rw [e0]
  unfold rd_law_count
  refine seq fun N hN => ?_
  walk_at "D"
  refine ⟨by rw [sizeL]; decide, fun h => (nomatch h), by omega, by omega, by decide, _, List.replicate n (d : Int), rfl, rfl, by rw [List.length_replicate]; omega, fun t ht => by rw [(List.mem_replicate.mp ht).2]; omega, fun i => ?_, fun x s1 le hr hx => ?_⟩
  · refine Nat.le_trans (box_len _ 10 fun t ht => ?_) ?_
    · rw [(List.mem_replicate.mp (List.mem_of_mem_take ht)).2]
      omega
    · rw [List.length_take, List.length_replicate]
      exact Nat.le_trans (Nat.pow_le_pow_right (by decide) (show min i n ≤ 3 by omega)) (by decide)
  have hbl : (boxL (List.replicate n (d : Int))).length ≤ 1000 := by
    refine Nat.le_trans (box_len _ 10 fun t ht => ?_) ?_
    · rw [(List.mem_replicate.mp ht).2]
      omega
    · rw [List.length_replicate]
      exact Nat.le_trans (Nat.pow_le_pow_right (by decide) hn) (by decide)
  obtain ⟨inv, hsrc, hinv⟩ := src_of2 hx
  simp only [seqSrc, titems, lsrc] at hsrc
  simp only [hsrc]
  rw [← box_deg n d A] at K
  have hbn : ∀ a ∈ boxL (List.replicate n (d : Int)), a.length = n := fun a ha => by
    have := (mem_boxL.mp ha).1
    rw [List.length_replicate] at this
    exact this
  have hiv := hinv s1 hx
  generalize boxL (List.replicate n (d : Int)) = L at hx hsrc hbl hbn K
  refine ⟨by rw [List.length_map, List.length_map, sizeL]; omega, ?_⟩
  rw [List.map_map]
  refine comp_fmT _ (fun a => decide (a.sum = (d : Int)) && !inL A a) (fun a => .d (TI a)) hiv _ _ ?_ ?_
  · intro a ha Q1 Q2 h
    walk_at "D"
    by_cases c : a.sum = (d : Int)
    · simp only [c, decide_true, Bool.true_and, if_true] at h ⊢
      refine ⟨A, a, n, rfl, hl, by omega, hA.len, hbn a ha, ?_⟩
      walk_at "D"
      exact h
    · simp only [c, decide_false, Bool.false_and, Bool.false_eq_true, if_false] at h ⊢
      exact h
  have e1 : ([] : List DV) ++ (L.filter fun a => decide (a.sum = (d : Int)) && !inL A a).map (fun a => DV.d (TI a)) = ((L.filter fun a => decide (a.sum = (d : Int)) && !inL A a).map TI).map DV.d := by
    rw [List.nil_append, List.map_map]
    rfl
  rw [e1]
  walk_at "D"
  refine hN _ _ ?_
  walk_at "D"
  exact fg_le le K
def sp_law : SpD := fun xs st Q => ∃ ns : List Int, xs = [.d (.list (ns.map .int))] ∧ ns.length ≤ 63 ∧ ∀ st', Q (Bo true) st'
theorem len_law : ∀ xs st Q, sp_law xs st Q → xs.length = 1 := by rintro xs st Q ⟨ns, rfl, _⟩; rfl
theorem law_true : ∀ ns : List Int, ns.length ≤ 63 → sp_law [.d (.list (ns.map .int))] (fun _ => none) (fun x _ => x = .d (.bool true)) := fun ns h => ⟨ns, rfl, h, fun _ => rfl⟩
theorem at3 {α : Type} (x y z w : α) (l : List α) : atI (x :: y :: z :: w :: l) 3 = some w := atI_nat (j := 3) rfl
theorem turns23 (l : Nat) : ∃ t : Nat, (if (if (3 : Int) < (l : Int) then (3 : Int) else (l : Int)) > 2 then (if (3 : Int) < (l : Int) then (3 : Int) else (l : Int)) else 2) = (t : Int) ∧ (t : Int) ≤ 3 := turns l 2 3 (by decide) (by decide)
theorem go_num {n : Nat} {G : List (List Int)} {st : Sto} {Q : DV → Sto → Prop} (h : Small n G) (K : Q (.d (PT (numL n G))) st) : sp_numerator [.d (idl n G)] st Q := ⟨G, n, rfl, h.1, h.2.1, h.nns, K⟩
theorem go_added {n : Nat} {R O : Tab} {f : List Int} {s : Int} {st : Sto} {Q : DV → Sto → Prop} (hn : n ≤ 1000) (hf : f.length = n) (hO : ∀ p ∈ O, NN n p.1) (h1 : R.length ≤ 1024) (h2 : O.length ≤ 1024) (hs : s = 1 ∨ s = -1) (K : Q (.d (PT (canZ (addedZ R O f s)))) st) : sp_law_added [.d (PT R), .d (PT O), .d (TI f), I s] st Q :=
  ⟨R, O, f, s, n, rfl, hn, hf, fun p hp => (hO p hp).1, h1, h2, hs, K⟩
theorem sem_law : ∀ xs st Q, sp_law xs st Q → rd_law sp_law_begun sp_law_draw sp_law_monomial sp_law_small sp_meet_of sp_numerator sp_sum_of sp_law_added sp_ideal_of sp_colon_by sp_numerator_by_splitting sp_signs sp_count_left sp_law_count { nx := fun _ st' => Fg Q (.d .none) st', rt := Fg Q } (startD 15 xs) st := by
  rintro xs st Q ⟨ns, rfl, hns, K⟩
  have e0 : startD 15 [.d (.list (ns.map .int))] = [some (.d (.list (ns.map .int))), none, none, none, none, none, none, none, none, none, none, none, none, none, none] := rfl
  rw [e0]
  unfold rd_law
  refine seq fun N0 hN0 => ?_
  walk_at "D"
  obtain ⟨t, ht, ht2⟩ := turns23 ns.length
  simp only [ht]
  refine ⟨by omega, by omega, ?_⟩
  walk_at "D"
  refine for_byT _ (fun _ ε s => ∃ x1 x2 x3 x4 x5 x6 x7 x8 x9 x10 x11 x12 x13, ε = [some (.d (.list (ns.map .int))), x1, x2, x3, x4, x5, x6, x7, x8, x9, x10, x11, x12, x13, none]) ⟨_, _, _, _, _, _, _, _, _, _, _, _, _, rfl⟩ (fun _ _ _ _ => trivial) ?_ ?_
  rotate_left
  · rintro ε s ⟨x1, x2, x3, x4, x5, x6, x7, x8, x9, x10, x11, x12, x13, rfl⟩
    refine hN0 _ _ ?_
    walk_at "D"
    exact fg_ret (K _)
  clear hN0
  rintro i k ε s hk ⟨x1, x2, x3, x4, x5, x6, x7, x8, x9, x10, x11, x12, x13, rfl⟩ L hL
  obtain ⟨rfl, hi⟩ := range_some hk
  refine seq fun N hN => ?_
  walk_at "D"
  refine begun hns (by omega) (by omega) fun m s1 D1 _ => ?_
  refine hN _ _ ?_; clear hN N
  refine seq fun N hN => ?_
  walk_at "D"
  refine draw D1 (by omega) (by omega) (by omega) fun v s2 l2 u2 D2 _ => ?_
  walk_at "D"
  obtain ⟨n, hn⟩ : ∃ n : Nat, 1 + v = (n : Int) := ⟨(1 + v).toNat, by omega⟩
  rw [hn]
  refine hN _ _ ?_; clear hN N
  have h1 : 1 ≤ n := by omega
  have h3 : n ≤ 3 := by omega
  have n1 : n ≤ 1000 := by omega
  refine seq fun N hN => ?_
  walk_at "D"
  refine ⟨m, n, 3, 3, _, rfl, h1, by omega, by decide, by omega, by omega, by omega, D2, fun A s3 hA D3 _ => ?_⟩
  walk_at "D"
  refine ⟨m, n, 3, 3, _, rfl, h1, by omega, by decide, by omega, by omega, by omega, D3, fun B s4 hB D4 _ => ?_⟩
  walk_at "D"
  refine ⟨m, n, 3, _, rfl, by omega, by omega, by omega, by omega, D4, fun f s5 hf D5 _ => ?_⟩
  walk_at "D"
  refine hN _ _ ?_; clear hN N
  have nA : NNs n A := hA.nns
  have nB : NNs n B := hB.nns
  have nf : NN n f := hf.nn
  have cA := hA.2.1
  have cB := hB.2.1
  have SA : Small n A := idl_small hA (by omega) (by decide) (by omega)
  have SB : Small n B := idl_small hB (by omega) (by decide) (by omega)
  have iS := idl_app hA hB
  have iM := idl_meet hA hB
  have SS : Small n (minL (A ++ B)) := idl_small iS (by omega) (by decide) (Nat.le_trans iS.2.1 (by decide))
  have SM : Small n (minL (pairL lcmL A B)) := idl_small iM (by omega) (by decide) (Nat.le_trans iM.2.1 (by decide))
  refine seq fun N hN => ?_
  walk_at "D"
  refine ⟨by rw [sizeL]; decide, fun h => (nomatch h), by omega, by omega, by decide, hN _ _ ?_⟩; clear hN N
  refine seq fun N hN => ?_
  walk_at "D"
  refine go_sum h1 n1 (by decide) hA hB (by decide) ?_
  walk_at "D"
  refine go_num SS ?_
  walk_at "D"
  refine go_meet h1 n1 (by decide) hA hB (by decide) (by decide) (by decide) ?_
  walk_at "D"
  refine go_num SM ?_
  walk_at "D"
  refine go_added n1 (List.length_replicate ..) (nn_num SM.nns) (len_num SS) (len_num SM) (.inl rfl) ?_
  refine hN _ _ ?_; clear hN N
  refine seq fun N hN => ?_
  walk_at "D"
  refine go_num SA ?_
  walk_at "D"
  refine go_num SB ?_
  walk_at "D"
  refine go_added n1 (List.length_replicate ..) (nn_num nB) (len_num SA) (len_num SB) (.inl rfl) ?_
  walk_at "D"
  refine ⟨shaped_PT, shaped_PT, ?_⟩
  simp only [eqv_PT, added_two nA nB, decide_true, Bool.not_true, Bool.false_eq_true, if_false]
  refine hN _ _ ?_; clear hN N
  refine seq fun N hN => ?_
  walk_at "D"
  have mW : ∀ x ∈ A ++ [f], Mon n 3 x := fun x hx => (List.mem_append.mp hx).elim (hA.2.2 x) fun h => by rw [List.mem_singleton.mp h]; exact hf
  have lW : (A ++ [f]).length ≤ 4 := by rw [List.length_append]; exact Nat.add_le_add_right cA 1
  have iW : Idl n 3 4 (minL (A ++ [f])) := ⟨min_idem fun x hx => (mW x hx).1, Nat.le_trans (min_len _) lW, fun x hx => mW x (min_sub x hx)⟩
  have SW : Small n (minL (A ++ [f])) := idl_small iW (by omega) (by decide) (Nat.le_trans iW.2.1 (by decide))
  have hA60 : Idl n 60 60 A := hA.mono (by decide) (by decide)
  obtain ⟨okc, _⟩ := ok_cut h1 n1 hA60 nf
  have SC : Small n (minL (UC.cutS A f)) := ⟨by omega, Nat.le_trans (min_len _) (by unfold UC.cutS; rw [List.length_map]; omega), fun x hx => okc.2.2.2 x (min_sub x hx)⟩
  refine ⟨by rw [sizeL]; decide, by rw [sizeL]; omega, ?_⟩
  rw [show List.map DV.d (List.map UC.TI A) ++ [DV.d (UC.TI f)] = ((A ++ [f]).map UC.TI).map DV.d by rw [List.map_append, List.map_append]; rfl, datas_map]
  refine ⟨.d (LT (A ++ [f])), A ++ [f], n, rfl, ⟨h1, n1, by omega, fun x hx => (mW x hx).mono (by decide)⟩, Nat.le_trans iW.2.1 (by decide), ?_⟩
  refine hN _ _ ?_; clear hN N
  refine seq fun N hN => ?_
  walk_at "D"
  refine go_num SW ?_
  walk_at "D"
  refine go_num SA ?_
  walk_at "D"
  refine ⟨A, f, n, rfl, h1, n1, hA60, nf, ?_⟩
  walk_at "D"
  refine go_num SC ?_
  walk_at "D"
  refine go_added n1 nf.1 (nn_num SC.nns) (len_num SA) (len_num SC) (.inr rfl) ?_
  walk_at "D"
  refine ⟨shaped_PT, shaped_PT, ?_⟩
  simp only [eqv_PT, added_last nA nf, decide_true, Bool.not_true, Bool.false_eq_true, if_false]
  refine hN _ _ ?_; clear hN N
  refine seq fun N hN => ?_
  walk_at "D"
  refine go_meet h1 n1 (by decide) hA hB (by decide) (by decide) (by decide) ?_
  walk_at "D"
  refine ⟨by rw [sizeL]; decide, ?_⟩
  have good : ∀ G ∈ [A, minL (A ++ [f]), minL (pairL lcmL A B)], Small n G ∧ ∃ c : Nat, Idl n 3 c G := fun G hG => by
    rcases List.mem_cons.mp hG with rfl | hG
    · exact ⟨SA, _, hA⟩
    rcases List.mem_cons.mp hG with rfl | hG
    · exact ⟨SW, _, iW⟩
    rw [List.mem_singleton.mp hG]
    exact ⟨SM, _, iM⟩
  refine for_byT (fun G : List (List Int) => DV.d (idl n G)) (l := [A, minL (A ++ [f]), minL (pairL lcmL A B)]) (fun _ ε s => s = s5 ∧ ∃ y10 y11, ε = [some (.d (.list (ns.map .int))), some (.d (.int k)), some (.r m), some (.d (.int n)), some (.d (idl n A)), some (.d (idl n B)), some (.d (TI f)), some (.d (TI (List.replicate n 0))), some (.d (PT (canZ (addedZ (numL n A) (numL n B) (List.replicate n 0) 1)))), some (.d (idl n (minL (A ++ [f])))), y10, y11, x12, x13, none]) ⟨rfl, _, _, rfl⟩ (fun _ _ _ _ => trivial) ?_ ?_
  · rintro j G ε s' hj ⟨rfl, y10, y11, rfl⟩ R hR
    obtain ⟨SG, c, iG⟩ := good G (List.mem_of_getElem? hj)
    have nG := SG.nns
    have mG := mins_minL (S := G) (n := n) iG.len
    rw [iG.1] at mG
    have hsg := sg_num nG mG.anti (ris_nodup mG.ris)
    have hlen : (sgL n G).length ≤ 1024 := by
      unfold sgL
      split
      · exact Nat.zero_le _
      · unfold sortP
        rw [List.length_mergeSort, len_mo (listed_mulD n G).nodup]
        exact len_mulD n G SG.2.1
    refine seq fun N hN => ?_
    walk_at "D"
    refine go_num SG ?_
    refine hN _ _ ?_; clear hN N
    refine seq fun N hN => ?_
    walk_at "D"
    refine ⟨G, n, rfl, h1, SG, ?_⟩
    walk_at "D"
    refine ⟨shaped_PT, shaped_PT, ?_⟩
    simp only [eqv_PT, decide_true, Bool.not_true, Bool.false_eq_true, if_false]
    refine hN _ _ ?_; clear hN N
    walk_at "D"
    refine ⟨G, n, rfl, SG.1, SG.2.1, nG, ?_⟩
    generalize sgL n G = T at hsg hlen
    walk_at "D"
    refine ⟨by rw [sizeL]; omega, ?_⟩
    rw [List.map_map]
    refine comp_fmT _ (fun p : List Int × Int => decide (p.2 ≠ 0)) (fun p => .d (pairP p)) trivial _ _ ?_ ?_
    · intro p hp Q1 Q2 h
      simp only [Function.comp, pairP]
      walk_at "D"
      simp only [pairP] at h
      by_cases c : p.2 = 0
      · simp only [c, decide_true, Bool.not_true, Bool.false_eq_true, if_false, ne_eq, not_true_eq_false, decide_false] at h ⊢
        exact h
      · simp only [c, decide_false, Bool.not_false, if_true, ne_eq, not_false_eq_true, decide_true] at h ⊢
        exact h
    have e2 : ([] : List DV) ++ (T.filter fun p => decide (p.2 ≠ 0)).map (fun p => DV.d (pairP p)) = ((T.filter fun p => decide (p.2 ≠ 0)).map pairP).map DV.d := by
      rw [List.nil_append, List.map_map]
      rfl
    rw [e2, hsg]
    walk_at "D"
    refine ⟨shaped_PT, shaped_PT, ?_⟩
    simp only [eqv_PT, decide_true, Bool.not_true, Bool.false_eq_true, if_false]
    exact hR _ _ ⟨rfl, _, _, rfl⟩
  rintro ε s' ⟨rfl, y10, y11, rfl⟩
  refine hN _ _ ?_; clear hN N
  refine seq fun N hN => ?_
  walk_at "D"
  refine draw D5 (by omega) (by omega) (by omega) fun v s6 l6 u6 D6 _ => ?_
  obtain ⟨d, hd⟩ : ∃ d : Nat, v = (d : Int) := ⟨v.toNat, by omega⟩
  rw [hd] at u6 ⊢
  refine hN _ _ ?_; clear hN N
  refine seq fun N hN => ?_
  walk_at "D"
  refine go_sum h1 n1 (by decide) hA hB (by decide) ?_
  walk_at "D"
  refine go_meet h1 n1 (by decide) hA hB (by decide) (by decide) (by decide) ?_
  walk_at "D"
  have good2 : ∀ G ∈ [A, B, minL (A ++ B), minL (pairL lcmL A B)], Small n G := fun G hG => by
    rcases List.mem_cons.mp hG with rfl | hG
    · exact SA
    rcases List.mem_cons.mp hG with rfl | hG
    · exact SB
    rcases List.mem_cons.mp hG with rfl | hG
    · exact SS
    rw [List.mem_singleton.mp hG]
    exact SM
  refine comp_mapT (fun G : List (List Int) => DV.d (idl n G)) (fun G => I (leftN n G d : Int)) (inv := fun _ => True) trivial [A, B, minL (A ++ B), minL (pairL lcmL A B)] [] ?_ ?_
  · intro G hG Q2 h
    walk_at "D"
    exact ⟨G, n, d, rfl, h1, good2 G hG, by omega, h⟩
  rw [ints_dv0]
  walk_at "D"
  refine hN _ _ ?_; clear hN N
  have key := left_pt nA nB d
  walk_at "D"
  simp only [at3]
  walk_at "D"
  rw [key]
  simp only [decide_true, Bool.not_true, Bool.false_eq_true, if_false]
  refine ⟨n, d, A, rfl, h3, by omega, nA, by omega, ?_⟩
  walk_at "D"
  exact hL _ _ ⟨_, _, _, _, _, _, _, _, _, _, _, _, _, rfl⟩
end U
end
section
set_option Elab.async false
set_option linter.all false
set_option maxRecDepth 100000
set_option maxHeartbeats 4000000
namespace DL
open PySem L2 PyProof.Rows
end DL
end
section
set_option Elab.async false
set_option linter.all false
set_option maxRecDepth 100000
set_option maxHeartbeats 4000000
namespace DL
open PySem PySem.Spec L2 PyProof.Rows EX
end DL
end
section
set_option Elab.async false
set_option linter.all false
set_option maxRecDepth 100000
set_option maxHeartbeats 4000000
namespace DL
open PySem PySem.Spec L2 PyProof.Rows EX
end DL
end
section
set_option Elab.async false
set_option linter.all false
set_option maxRecDepth 100000
set_option maxHeartbeats 4000000
namespace DL
open PySem PySem.Spec PySem.W L2 PyProof.Rows EX
end DL
end
section
set_option Elab.async false
set_option linter.all false
set_option maxRecDepth 100000
set_option maxHeartbeats 2000000
namespace L2
open PySem PySem.Spec PyProof.Rows
section
variable {P : Program} {w : World} {K : PySem.W.Frag} {mg mb : Str → Option Value} {k : Nat} {fa a : Addr} {tb : List (Addr × Addr)} {fd : FuncData} {x : Str} {sp : Sp} {z : Shared} {vs : List Value} {ns : List Int}
/-- the tables' addresses -/
abbrev tabA (tb : List (Addr × Addr)) : List Addr := tb.map Prod.snd
/-- what is tracked as the law begins: its list, unless the written part has it, and the tables -/
def first (K : PySem.W.Frag) (a : Addr) (vs : List Value) (ns : List Int) (tb : List (Addr × Addr)) : Hp := fun b =>
  if b ∈ tabA tb then some (.tbl #[]) else if b = a ∧ K.lookup a = none then some (.frz { cls := .type "list", data := .seq vs.toArray } (.lst (ns.map V.int))) else none
end
end L2
namespace DL
open PySem PySem.Spec PySem.W L2 PyProof.Rows EX
end DL
end
section
set_option Elab.async false
set_option linter.all false
set_option pp.maxSteps 200
set_option maxRecDepth 100000
namespace GD
open PySem L2 DL RD
section
variable {P : Program} {w : World} {K : PySem.W.Frag} {mg : Str → Option Value} {base : Heap}
variable [tB : Tb] [gR : Gr]
def top (i : Nat) : Stmt := PySem.Challenge.pw_jointneeds_k92_whole_numerators_added.main.body.getD i (.Pass ⟨0, 0, 0, 0⟩)
structure Tx (mg : Str → Option Value) : Prop where
  b_any : mg "any" = none
  b_enumerate : mg "enumerate" = none
  b_int : mg "int" = none
  b_len : mg "len" = none
  b_list : mg "list" = none
  b_max : mg "max" = none
  b_min : mg "min" = none
  b_range : mg "range" = none
  b_set : mg "set" = none
  b_sorted : mg "sorted" = none
  b_sum : mg "sum" = none
  b_tuple : mg "tuple" = none
  b_zip : mg "zip" = none
  c_MOST_EXPONENT : ∃ t, mg "MOST_EXPONENT" = some (.int 60 t)
  c_MOST_GENERATORS : ∃ t, mg "MOST_GENERATORS" = some (.int 60 t)
  c_SMALL_GENERATORS : ∃ t, mg "SMALL_GENERATORS" = some (.int 10 t)
  c_SMALL_VARIABLES : ∃ t, mg "SMALL_VARIABLES" = some (.int 8 t)
  m_comb : mg "comb" = some (.builtin "math.comb")
abbrev s_law_begun : Stmt := top 35
abbrev N_law_begun : List Str := ["script", "k", "cells", "great", "seed", "cell"]
theorem S_law_begun : FnScope N_law_begun ["script", "k"] (defScope s_law_begun) := ⟨rfl, rfl, rfl, by decide +kernel, rfl, by decide +kernel, by decide +kernel⟩
theorem v_law_begun_0 : visB N_law_begun (defScope s_law_begun) 0 "script" = true := by decide +kernel
theorem v_law_begun_1 : visB N_law_begun (defScope s_law_begun) 1 "k" = true := by decide +kernel
theorem v_law_begun_2 : visB N_law_begun (defScope s_law_begun) 2 "cells" = true := by decide +kernel
theorem l_law_begun_2 : locB N_law_begun (defScope s_law_begun) (defScope s_law_begun) 2 "cells" = true := by decide +kernel
theorem v_law_begun_3 : visB N_law_begun (defScope s_law_begun) 3 "great" = true := by decide +kernel
theorem v_law_begun_4 : visB N_law_begun (defScope s_law_begun) 4 "seed" = true := by decide +kernel
theorem l_law_begun_4 : locB N_law_begun (defScope s_law_begun) (defScope s_law_begun) 4 "seed" = true := by decide +kernel
theorem v_law_begun_5 : visB N_law_begun (defScope s_law_begun) 5 "cell" = true := by decide +kernel
theorem l_law_begun_5 : locB N_law_begun (defScope s_law_begun) (defScope s_law_begun) 5 "cell" = true := by decide +kernel
theorem g_law_begun_int : glB (defScope s_law_begun) "int" = true := by decide +kernel
set_option maxHeartbeats 4000000 in
theorem d_law_begun  (T : Tx mg)  : ∀ X, Cok P w K mg base X N_law_begun (defScope s_law_begun) (defScope s_law_begun) 0 → DSs X (defBody s_law_begun) (rd_law_begun) := fun X c =>
  (ds_cons (ds_asg c (de_bin (op_qAdd false) (de_sl false (de_var c v_law_begun_0) (do_some (de_var c v_law_begun_1)) do_none) (de_sl false (de_var c v_law_begun_0) do_none (do_some (de_var c v_law_begun_1)))) (dg_name c l_law_begun_2) rfl rfl)
  (ds_cons (ds_setLc (i := 3) false [("cell", 5)] c (by decide +kernel) (by kernel_rfl) (by decide +kernel) (by decide) (di_seq (de_var c v_law_begun_2)) (fun _ c1 => (dg_name c1 (by decide +kernel))) (fun _ c1 => (dts_one (dt_cp op_qGe rfl (de_var c1 (by decide +kernel)) (de_bin op_qPow de_int de_int)))) (fun _ c1 => (de_var c1 (by decide +kernel))))
  (ds_cons (ds_asg c (de_bin (op_qAdd false) de_int (de_var c v_law_begun_1)) (dg_name c l_law_begun_4) rfl rfl)
  (ds_cons (ds_for c (di_seq (de_var c v_law_begun_2)) (dg_name c l_law_begun_5) (ds_one (ds_asg c (de_bin op_qMod (de_ct c g_law_begun_int T.b_int bt_int c_int (da_cons (de_bin (op_qAdd false) (de_bin (op_qMul false) (de_var c v_law_begun_4) de_int) (de_var c v_law_begun_5)) da_nil)) de_int) (dg_name c l_law_begun_4) rfl rfl)))
  (ds_one (ds_ret (de_disp (dps_cons (de_if (dt_cp (op_qNe c.hu64) rfl (de_var c v_law_begun_3) (de_lst false da_nil)) (de_ix (de_var c v_law_begun_3) de_int (fun _ _ => rfl)) de_int) (dps_cons (de_var c v_law_begun_4) (dps_cons (de_bin (op_qAdd false) (de_var c v_law_begun_2) (de_lst false (da_cons (de_bin (op_qAdd false) (de_bin (op_qMul false) de_int (de_var c v_law_begun_1)) de_int) da_nil))) (dps_cons de_int dps_nil)))) rfl rfl (fun z => by cases z) (by decide))))))))
theorem o_law_begun  (T : Tx mg)  {f : Addr} {fd : FuncData} {sp : SpD} (Fu : Fun K "_law_begun" "_law_begun" s_law_begun f fd) (hm : mg "_law_begun" = some (.ref f)) (len : ∀ xs st Q, sp xs st Q → xs.length = 2) (sem : ∀ xs st Q, sp xs st Q → rd_law_begun { nx := fun _ st' => Fg Q (.d .none) st', rt := Fg Q } (startD 6 xs) st) : Cl P w K mg base "_law_begun" 1 sp :=
  ⟨f, fd, ["script", "k"], hm, Fu.kp, fn_ok Fu S_law_begun len (d_law_begun T ) sem, Fu.binds fun _ _ _ _ _ _ us hl => match us, hl with | [_, _], _ => rfl⟩
abbrev s_law_times : Stmt := top 38
abbrev N_law_times : List Str := ["a", "b", "k"]
theorem S_law_times : FnScope N_law_times ["a", "b"] (defScope s_law_times) := ⟨rfl, rfl, rfl, by decide +kernel, rfl, by decide +kernel, by decide +kernel⟩
theorem v_law_times_0 : visB N_law_times (defScope s_law_times) 0 "a" = true := by decide +kernel
theorem g_law_times_len : glB (defScope s_law_times) "len" = true := by decide +kernel
theorem g_law_times_range : glB (defScope s_law_times) "range" = true := by decide +kernel
theorem g_law_times_tuple : glB (defScope s_law_times) "tuple" = true := by decide +kernel
set_option maxHeartbeats 4000000 in
theorem d_law_times  (T : Tx mg)  : ∀ X, Cok P w K mg base X N_law_times (defScope s_law_times) (defScope s_law_times) 0 → DSs X (defBody s_law_times) (rd_law_times) := fun X c =>
  (ds_one (ds_ret (de_ct c g_law_times_tuple T.b_tuple bt_tuple c_tuple (da_cons (de_lc false [("k", 2)] c (by decide +kernel) (by decide) (di_rng1 c g_law_times_range T.b_range (da_cons (de_cb c g_law_times_len T.b_len bb_len c_len (da_cons (de_var c v_law_times_0) da_nil)) da_nil)) (fun _ c1 => (dg_name c1 (by decide +kernel))) (fun _ c1 => dts_nil) (fun _ c1 => (de_bin (op_qAdd false) (de_ix (de_var c1 (by decide +kernel)) (de_var c1 (by decide +kernel)) (fun _ _ => rfl)) (de_ix (de_var c1 (by decide +kernel)) (de_var c1 (by decide +kernel)) (fun _ _ => rfl))))) da_nil))))
theorem o_law_times  (T : Tx mg)  {f : Addr} {fd : FuncData} {sp : SpD} (Fu : Fun K "_law_times" "_law_times" s_law_times f fd) (hm : mg "_law_times" = some (.ref f)) (len : ∀ xs st Q, sp xs st Q → xs.length = 2) (sem : ∀ xs st Q, sp xs st Q → rd_law_times { nx := fun _ st' => Fg Q (.d .none) st', rt := Fg Q } (startD 3 xs) st) : Cl P w K mg base "_law_times" 1 sp :=
  ⟨f, fd, ["a", "b"], hm, Fu.kp, fn_ok Fu S_law_times len (d_law_times T ) sem, Fu.binds fun _ _ _ _ _ _ us hl => match us, hl with | [_, _], _ => rfl⟩
abbrev s_law_added : Stmt := top 45
abbrev N_law_added : List Str := ["rows", "others", "factor", "sign", "found", "b", "number", "c"]
theorem S_law_added : FnScope N_law_added ["rows", "others", "factor", "sign"] (defScope s_law_added) := ⟨rfl, rfl, rfl, by decide +kernel, rfl, by decide +kernel, by decide +kernel⟩
theorem v_law_added_0 : visB N_law_added (defScope s_law_added) 0 "rows" = true := by decide +kernel
theorem v_law_added_1 : visB N_law_added (defScope s_law_added) 1 "others" = true := by decide +kernel
theorem v_law_added_2 : visB N_law_added (defScope s_law_added) 2 "factor" = true := by decide +kernel
theorem v_law_added_3 : visB N_law_added (defScope s_law_added) 3 "sign" = true := by decide +kernel
theorem v_law_added_4 : visB N_law_added (defScope s_law_added) 4 "found" = true := by decide +kernel
theorem l_law_added_4 : locB N_law_added (defScope s_law_added) (defScope s_law_added) 4 "found" = true := by decide +kernel
theorem v_law_added_5 : visB N_law_added (defScope s_law_added) 5 "b" = true := by decide +kernel
theorem l_law_added_5 : locB N_law_added (defScope s_law_added) (defScope s_law_added) 5 "b" = true := by decide +kernel
theorem v_law_added_6 : visB N_law_added (defScope s_law_added) 6 "number" = true := by decide +kernel
theorem l_law_added_6 : locB N_law_added (defScope s_law_added) (defScope s_law_added) 6 "number" = true := by decide +kernel
theorem v_law_added_7 : visB N_law_added (defScope s_law_added) 7 "c" = true := by decide +kernel
theorem l_law_added_7 : locB N_law_added (defScope s_law_added) (defScope s_law_added) 7 "c" = true := by decide +kernel
theorem g_law_added_law_times : glB (defScope s_law_added) "_law_times" = true := by decide +kernel
theorem g_law_added_sorted : glB (defScope s_law_added) "sorted" = true := by decide +kernel
theorem g_law_added_tuple : glB (defScope s_law_added) "tuple" = true := by decide +kernel
set_option maxHeartbeats 4000000 in
theorem d_law_added {sp_law_times : SpD} (T : Tx mg) (C_law_times : Cl P w K mg base "_law_times" 1 sp_law_times) : ∀ X, Cok P w K mg base X N_law_added (defScope s_law_added) (defScope s_law_added) 1 → DSs X (defBody s_law_added) (rd_law_added sp_law_times) := fun X c =>
  (ds_cons (ds_asg c (de_dnew true) (dg_name c l_law_added_4) rfl rfl)
  (ds_cons (ds_for c (di_seq (de_var c v_law_added_0)) (dg_tup c (dgs_cons (dg_name c l_law_added_5) (dgs_cons (dg_name c l_law_added_6) dgs_nil))) (ds_one (ds_dput c (de_var c v_law_added_4) (de_var c v_law_added_5) (de_bin (op_qAdd false) (de_get c (de_var c v_law_added_4) (de_var c v_law_added_5) de_int) (de_var c v_law_added_6)) rfl)))
  (ds_cons (ds_for c (di_seq (de_var c v_law_added_1)) (dg_tup c (dgs_cons (dg_name c l_law_added_5) (dgs_cons (dg_name c l_law_added_6) dgs_nil))) (ds_cons (ds_asg c (de_callC c g_law_added_law_times C_law_times (by decide) (da_cons (de_var c v_law_added_5) (da_cons (de_var c v_law_added_2) da_nil))) (dg_name c l_law_added_7) rfl rfl)
      (ds_one (ds_dput c (de_var c v_law_added_4) (de_var c v_law_added_7) (de_bin (op_qAdd false) (de_get c (de_var c v_law_added_4) (de_var c v_law_added_7) de_int) (de_bin (op_qMul false) (de_var c v_law_added_3) (de_var c v_law_added_6))) rfl))))
  (ds_one (ds_ret (de_ct c g_law_added_tuple T.b_tuple bt_tuple c_tuple (da_cons (de_sortD false c g_law_added_sorted T.b_sorted (de_lock 4 (de_lc false [("b", 5)] c (by decide +kernel) (by decide) (di_keysT (de_var c v_law_added_4)) (fun _ c1 => (dg_name c1 (by decide +kernel))) (fun _ c1 => (dts_one (dt_cp (op_qNe c1.hu64) rfl (de_dget c1 (de_var c1 (by decide +kernel)) (de_var c1 (by decide +kernel)) (fun _ _ => rfl)) de_int))) (fun _ c1 => (de_tup (da_cons (de_var c1 (by decide +kernel)) (da_cons (de_dget c1 (de_var c1 (by decide +kernel)) (de_var c1 (by decide +kernel)) (fun _ _ => rfl)) da_nil))))))) da_nil)))))))
theorem o_law_added {sp_law_times : SpD} (T : Tx mg) (C_law_times : Cl P w K mg base "_law_times" 1 sp_law_times) {f : Addr} {fd : FuncData} {sp : SpD} (Fu : Fun K "_law_added" "_law_added" s_law_added f fd) (hm : mg "_law_added" = some (.ref f)) (len : ∀ xs st Q, sp xs st Q → xs.length = 4) (sem : ∀ xs st Q, sp xs st Q → rd_law_added sp_law_times { nx := fun _ st' => Fg Q (.d .none) st', rt := Fg Q } (startD 8 xs) st) : Cl P w K mg base "_law_added" 2 sp :=
  ⟨f, fd, ["rows", "others", "factor", "sign"], hm, Fu.kp, fn_ok Fu S_law_added len (d_law_added T C_law_times) sem, Fu.binds fun _ _ _ _ _ _ us hl => match us, hl with | [_, _, _, _], _ => rfl⟩
abbrev s_divides : Stmt := top 6
abbrev N_divides : List Str := ["a", "b", "one", "other"]
theorem S_divides : FnScope N_divides ["a", "b"] (defScope s_divides) := ⟨rfl, rfl, rfl, by decide +kernel, rfl, by decide +kernel, by decide +kernel⟩
theorem v_divides_0 : visB N_divides (defScope s_divides) 0 "a" = true := by decide +kernel
theorem v_divides_1 : visB N_divides (defScope s_divides) 1 "b" = true := by decide +kernel
theorem v_divides_2 : visB N_divides (defScope s_divides) 2 "one" = true := by decide +kernel
theorem l_divides_2 : locB N_divides (defScope s_divides) (defScope s_divides) 2 "one" = true := by decide +kernel
theorem v_divides_3 : visB N_divides (defScope s_divides) 3 "other" = true := by decide +kernel
theorem l_divides_3 : locB N_divides (defScope s_divides) (defScope s_divides) 3 "other" = true := by decide +kernel
theorem g_divides_zip : glB (defScope s_divides) "zip" = true := by decide +kernel
set_option maxHeartbeats 4000000 in
theorem d_divides  (T : Tx mg)  : ∀ X, Cok P w K mg base X N_divides (defScope s_divides) (defScope s_divides) 0 → DSs X (defBody s_divides) (rd_divides) := fun X c =>
  (ds_cons (ds_for c (di_zip c g_divides_zip T.b_zip (da_cons (de_var c v_divides_0) (da_cons (de_var c v_divides_1) da_nil))) (dg_tup c (dgs_cons (dg_name c l_divides_2) (dgs_cons (dg_name c l_divides_3) dgs_nil))) (ds_one (ds_if (dt_cp op_qGt rfl (de_var c v_divides_2) (de_var c v_divides_3)) (ds_one (ds_ret de_bl)) ds_nil)))
  (ds_one (ds_ret de_bl)))
theorem o_divides  (T : Tx mg)  {f : Addr} {fd : FuncData} {sp : SpD} (Fu : Fun K "divides" "divides" s_divides f fd) (hm : mg "divides" = some (.ref f)) (len : ∀ xs st Q, sp xs st Q → xs.length = 2) (sem : ∀ xs st Q, sp xs st Q → rd_divides { nx := fun _ st' => Fg Q (.d .none) st', rt := Fg Q } (startD 4 xs) st) : Cl P w K mg base "divides" 1 sp :=
  ⟨f, fd, ["a", "b"], hm, Fu.kp, fn_ok Fu S_divides len (d_divides T ) sem, Fu.binds fun _ _ _ _ _ _ us hl => match us, hl with | [_, _], _ => rfl⟩
abbrev s_least_ones : Stmt := top 15
abbrev N_least_ones : List Str := ["monomials", "found", "monomial", "other"]
theorem S_least_ones : FnScope N_least_ones ["monomials"] (defScope s_least_ones) := ⟨rfl, rfl, rfl, by decide +kernel, rfl, by decide +kernel, by decide +kernel⟩
theorem v_least_ones_0 : visB N_least_ones (defScope s_least_ones) 0 "monomials" = true := by decide +kernel
theorem v_least_ones_1 : visB N_least_ones (defScope s_least_ones) 1 "found" = true := by decide +kernel
theorem l_least_ones_1 : locB N_least_ones (defScope s_least_ones) (defScope s_least_ones) 1 "found" = true := by decide +kernel
theorem v_least_ones_2 : visB N_least_ones (defScope s_least_ones) 2 "monomial" = true := by decide +kernel
theorem l_least_ones_2 : locB N_least_ones (defScope s_least_ones) (defScope s_least_ones) 2 "monomial" = true := by decide +kernel
theorem g_least_ones_sorted : glB (defScope s_least_ones) "sorted" = true := by decide +kernel
theorem g_least_ones_set : glB (defScope s_least_ones) "set" = true := by decide +kernel
theorem g_least_ones_any : glB (defScope s_least_ones) "any" = true := by decide +kernel
set_option maxHeartbeats 4000000 in
theorem d_least_ones {sp_divides : SpD} (T : Tx mg) (C_divides : Cl P w K mg base "divides" 1 sp_divides) : ∀ X, Cok P w K mg base X N_least_ones (defScope s_least_ones) (defScope s_least_ones) 1 → DSs X (defBody s_least_ones) (rd_least_ones sp_divides) := fun X c =>
  (ds_cons (ds_asg c (de_lst true da_nil) (dg_name c l_least_ones_1) rfl rfl)
  (ds_cons (ds_for c (di_seq (BS.de_sortB false c g_least_ones_sorted T.b_sorted g_least_ones_set T.b_set (de_var c v_least_ones_0))) (dg_name c l_least_ones_2) (ds_one (ds_if (dt_not (dt_val (de_cb c g_least_ones_any T.b_any bb_any (c_any c.calm) (da_cons (de_lc false [("other", 3)] c (by decide +kernel) (by decide) (di_seq (de_var c v_least_ones_1)) (fun _ c1 => (dg_name c1 (by decide +kernel))) (fun _ c1 => dts_nil) (fun _ c1 => (de_callC c1 (by decide +kernel) C_divides (by decide) (da_cons (de_var c1 (by decide +kernel)) (da_cons (de_var c1 (by decide +kernel)) da_nil))))) da_nil)))) (ds_one (ds_expr (de_append (de_var c v_least_ones_1) (de_var c v_least_ones_2)))) ds_nil)))
  (ds_one (ds_ret (de_var c v_least_ones_1)))))
theorem o_least_ones {sp_divides : SpD} (T : Tx mg) (C_divides : Cl P w K mg base "divides" 1 sp_divides) {f : Addr} {fd : FuncData} {sp : SpD} (Fu : Fun K "least_ones" "least_ones" s_least_ones f fd) (hm : mg "least_ones" = some (.ref f)) (len : ∀ xs st Q, sp xs st Q → xs.length = 1) (sem : ∀ xs st Q, sp xs st Q → rd_least_ones sp_divides { nx := fun _ st' => Fg Q (.d .none) st', rt := Fg Q } (startD 4 xs) st) : Cl P w K mg base "least_ones" 2 sp :=
  ⟨f, fd, ["monomials"], hm, Fu.kp, fn_ok Fu S_least_ones len (d_least_ones T C_divides) sem, Fu.binds fun _ _ _ _ _ _ us hl => match us, hl with | [_], _ => rfl⟩
abbrev s_made : Stmt := top 16
abbrev N_made : List Str := ["n", "monomials", "found", "monomial"]
theorem S_made : FnScope N_made ["n", "monomials"] (defScope s_made) := ⟨rfl, rfl, rfl, by decide +kernel, rfl, by decide +kernel, by decide +kernel⟩
theorem v_made_0 : visB N_made (defScope s_made) 0 "n" = true := by decide +kernel
theorem v_made_1 : visB N_made (defScope s_made) 1 "monomials" = true := by decide +kernel
theorem v_made_2 : visB N_made (defScope s_made) 2 "found" = true := by decide +kernel
theorem l_made_2 : locB N_made (defScope s_made) (defScope s_made) 2 "found" = true := by decide +kernel
theorem v_made_3 : visB N_made (defScope s_made) 3 "monomial" = true := by decide +kernel
theorem l_made_3 : locB N_made (defScope s_made) (defScope s_made) 3 "monomial" = true := by decide +kernel
theorem g_made_least_ones : glB (defScope s_made) "least_ones" = true := by decide +kernel
theorem g_made_len : glB (defScope s_made) "len" = true := by decide +kernel
theorem g_made_MOST_GENERATORS : glB (defScope s_made) "MOST_GENERATORS" = true := by decide +kernel
theorem g_made_max : glB (defScope s_made) "max" = true := by decide +kernel
theorem g_made_MOST_EXPONENT : glB (defScope s_made) "MOST_EXPONENT" = true := by decide +kernel
theorem g_made_tuple : glB (defScope s_made) "tuple" = true := by decide +kernel
set_option maxHeartbeats 4000000 in
theorem d_made {sp_least_ones : SpD} (T : Tx mg) (C_least_ones : Cl P w K mg base "least_ones" 2 sp_least_ones) : ∀ X, Cok P w K mg base X N_made (defScope s_made) (defScope s_made) 2 → DSs X (defBody s_made) (rd_made sp_least_ones) := fun X c =>
  (ds_cons (ds_asg c (de_callC c g_made_least_ones C_least_ones (by decide) (da_cons (de_var c v_made_1) da_nil)) (dg_name c l_made_2) rfl rfl)
  (ds_cons (ds_if (dt_cp op_qGt rfl (de_cb c g_made_len T.b_len bb_len c_len (da_cons (de_var c v_made_2) da_nil)) (de_gint c g_made_MOST_GENERATORS T.c_MOST_GENERATORS)) (ds_one ds_never) ds_nil)
  (ds_cons (ds_for c (di_seq (de_var c v_made_2)) (dg_name c l_made_3) (ds_one (ds_if (dt_cp op_qGt rfl (de_cb c g_made_max T.b_max bb_max (c_max1 c.calm c.hu65) (da_cons (de_var c v_made_3) da_nil)) (de_gint c g_made_MOST_EXPONENT T.c_MOST_EXPONENT)) (ds_one ds_never) ds_nil)))
  (ds_one (ds_ret (de_tup (da_cons (de_var c v_made_0) (da_cons (de_ct c g_made_tuple T.b_tuple bt_tuple c_tuple (da_cons (de_var c v_made_2) da_nil)) da_nil))))))))
theorem o_made {sp_least_ones : SpD} (T : Tx mg) (C_least_ones : Cl P w K mg base "least_ones" 2 sp_least_ones) {f : Addr} {fd : FuncData} {sp : SpD} (Fu : Fun K "made" "made" s_made f fd) (hm : mg "made" = some (.ref f)) (len : ∀ xs st Q, sp xs st Q → xs.length = 2) (sem : ∀ xs st Q, sp xs st Q → rd_made sp_least_ones { nx := fun _ st' => Fg Q (.d .none) st', rt := Fg Q } (startD 4 xs) st) : Cl P w K mg base "made" 3 sp :=
  ⟨f, fd, ["n", "monomials"], hm, Fu.kp, fn_ok Fu S_made len (d_made T C_least_ones) sem, Fu.binds fun _ _ _ _ _ _ us hl => match us, hl with | [_, _], _ => rfl⟩
abbrev s_ideal_of : Stmt := top 18
abbrev N_ideal_of : List Str := ["n", "monomials"]
theorem S_ideal_of : FnScope N_ideal_of ["n", "monomials"] (defScope s_ideal_of) := ⟨rfl, rfl, rfl, by decide +kernel, rfl, by decide +kernel, by decide +kernel⟩
theorem v_ideal_of_0 : visB N_ideal_of (defScope s_ideal_of) 0 "n" = true := by decide +kernel
theorem v_ideal_of_1 : visB N_ideal_of (defScope s_ideal_of) 1 "monomials" = true := by decide +kernel
theorem g_ideal_of_list : glB (defScope s_ideal_of) "list" = true := by decide +kernel
theorem g_ideal_of_made : glB (defScope s_ideal_of) "made" = true := by decide +kernel
set_option maxHeartbeats 4000000 in
theorem d_ideal_of {sp_made : SpD} (T : Tx mg) (C_made : Cl P w K mg base "made" 3 sp_made) : ∀ X, Cok P w K mg base X N_ideal_of (defScope s_ideal_of) (defScope s_ideal_of) 3 → DSs X (defBody s_ideal_of) (rd_ideal_of sp_made) := fun X c =>
  (ds_one (ds_ret (de_callC c g_ideal_of_made C_made (by decide) (da_cons (de_var c v_ideal_of_0) (da_cons (de_ct c g_ideal_of_list T.b_list bt_list (c_list false) (da_cons (de_var c v_ideal_of_1) da_nil)) da_nil)))))
theorem o_ideal_of {sp_made : SpD} (T : Tx mg) (C_made : Cl P w K mg base "made" 3 sp_made) {f : Addr} {fd : FuncData} {sp : SpD} (Fu : Fun K "ideal_of" "ideal_of" s_ideal_of f fd) (hm : mg "ideal_of" = some (.ref f)) (len : ∀ xs st Q, sp xs st Q → xs.length = 2) (sem : ∀ xs st Q, sp xs st Q → rd_ideal_of sp_made { nx := fun _ st' => Fg Q (.d .none) st', rt := Fg Q } (startD 2 xs) st) : Cl P w K mg base "ideal_of" 4 sp :=
  ⟨f, fd, ["n", "monomials"], hm, Fu.kp, fn_ok Fu S_ideal_of len (d_ideal_of T C_made) sem, Fu.binds fun _ _ _ _ _ _ us hl => match us, hl with | [_, _], _ => rfl⟩
abbrev s_law_draw : Stmt := top 36
abbrev N_law_draw : List Str := ["m", "below", "found", "spot", "cells", "extra", "cell", "blend"]
theorem S_law_draw : FnScope N_law_draw ["m", "below"] (defScope s_law_draw) := ⟨rfl, rfl, rfl, by decide +kernel, rfl, by decide +kernel, by decide +kernel⟩
theorem v_law_draw_0 : visB N_law_draw (defScope s_law_draw) 0 "m" = true := by decide +kernel
theorem v_law_draw_1 : visB N_law_draw (defScope s_law_draw) 1 "below" = true := by decide +kernel
theorem v_law_draw_2 : visB N_law_draw (defScope s_law_draw) 2 "found" = true := by decide +kernel
theorem l_law_draw_2 : locB N_law_draw (defScope s_law_draw) (defScope s_law_draw) 2 "found" = true := by decide +kernel
theorem v_law_draw_3 : visB N_law_draw (defScope s_law_draw) 3 "spot" = true := by decide +kernel
theorem l_law_draw_3 : locB N_law_draw (defScope s_law_draw) (defScope s_law_draw) 3 "spot" = true := by decide +kernel
theorem v_law_draw_4 : visB N_law_draw (defScope s_law_draw) 4 "cells" = true := by decide +kernel
theorem v_law_draw_5 : visB N_law_draw (defScope s_law_draw) 5 "extra" = true := by decide +kernel
theorem v_law_draw_6 : visB N_law_draw (defScope s_law_draw) 6 "cell" = true := by decide +kernel
theorem l_law_draw_6 : locB N_law_draw (defScope s_law_draw) (defScope s_law_draw) 6 "cell" = true := by decide +kernel
theorem v_law_draw_7 : visB N_law_draw (defScope s_law_draw) 7 "blend" = true := by decide +kernel
theorem l_law_draw_7 : locB N_law_draw (defScope s_law_draw) (defScope s_law_draw) 7 "blend" = true := by decide +kernel
theorem g_law_draw_int : glB (defScope s_law_draw) "int" = true := by decide +kernel
theorem g_law_draw_len : glB (defScope s_law_draw) "len" = true := by decide +kernel
set_option maxHeartbeats 4000000 in
theorem d_law_draw  (T : Tx mg)  : ∀ X, Cok P w K mg base X N_law_draw (defScope s_law_draw) (defScope s_law_draw) 0 → DSs X (defBody s_law_draw) (rd_law_draw) := fun X c =>
  (ds_cons (ds_if (dt_cp op_qGt rfl (de_dget c (de_var c v_law_draw_0) de_str (fun _ _ => rfl)) de_int) (ds_cons (ds_asg c (de_bin op_qMod (de_ct c g_law_draw_int T.b_int bt_int c_int (da_cons (de_dget c (de_var c v_law_draw_0) de_str (fun _ _ => rfl)) da_nil)) (de_var c v_law_draw_1)) (dg_name c l_law_draw_2) rfl rfl)
      (ds_cons (ds_dput c (de_var c v_law_draw_0) de_str (de_bin op_qFdiv (de_dget c (de_var c v_law_draw_0) de_str (fun _ _ => rfl)) (de_var c v_law_draw_1)) rfl)
      (ds_one (ds_ret (de_var c v_law_draw_2))))) ds_nil)
  (ds_cons (ds_asg c (de_dget c (de_var c v_law_draw_0) de_str (fun _ _ => rfl)) (dg_name c l_law_draw_3) rfl rfl)
  (ds_cons (ds_dput c (de_var c v_law_draw_0) de_str (de_bin (op_qAdd false) (de_var c v_law_draw_3) de_int) rfl)
  (ds_cons (ds_par (i := 4) (j := 5) c (by decide +kernel) (da_cons (de_dget c (de_var c v_law_draw_0) de_str (fun _ _ => rfl)) (da_cons (de_bin (op_qAdd false) (de_dget c (de_var c v_law_draw_0) de_str (fun _ _ => rfl)) (de_bin (op_qMul false) (de_bin (op_qMul false) de_int (de_var c v_law_draw_3)) (de_var c v_law_draw_3))) da_nil)) (by kernel_rfl))
  (ds_cons (ds_asg c (de_ix (de_var c v_law_draw_4) (de_bin op_qMod (de_ct c g_law_draw_int T.b_int bt_int c_int (da_cons (de_var c v_law_draw_3) da_nil)) (de_cb c g_law_draw_len T.b_len bb_len c_len (da_cons (de_var c v_law_draw_4) da_nil))) (fun _ _ => rfl)) (dg_name c l_law_draw_6) rfl rfl)
  (ds_cons (ds_asg c (de_bin op_qMod (de_ct c g_law_draw_int T.b_int bt_int c_int (da_cons (de_bin (op_qAdd false) (de_bin (op_qMul false) (de_var c v_law_draw_6) (de_bin (op_qAdd false) (de_bin (op_qMul false) de_int (de_var c v_law_draw_3)) de_int)) (de_var c v_law_draw_5)) da_nil)) de_int) (dg_name c l_law_draw_7) rfl rfl)
  (ds_cons (ds_asg c (de_bin op_qMod (de_ct c g_law_draw_int T.b_int bt_int c_int (da_cons (de_bin (op_qAdd false) (de_bin (op_qAdd false) (de_bin (op_qMul false) (de_var c v_law_draw_7) (de_var c v_law_draw_7)) (de_bin (op_qMul false) de_int (de_var c v_law_draw_3))) (de_dget c (de_var c v_law_draw_0) de_str (fun _ _ => rfl))) da_nil)) de_int) (dg_name c l_law_draw_7) rfl rfl)
  (ds_one (ds_ret (de_bin op_qMod (de_bin op_qFdiv (de_bin op_qMod (de_ct c g_law_draw_int T.b_int bt_int c_int (da_cons (de_bin (op_qAdd false) (de_bin (op_qMul false) (de_var c v_law_draw_7) de_int) (de_var c v_law_draw_3)) da_nil)) de_int) de_int) (de_var c v_law_draw_1)))))))))))
theorem o_law_draw  (T : Tx mg)  {f : Addr} {fd : FuncData} {sp : SpD} (Fu : Fun K "_law_draw" "_law_draw" s_law_draw f fd) (hm : mg "_law_draw" = some (.ref f)) (len : ∀ xs st Q, sp xs st Q → xs.length = 2) (sem : ∀ xs st Q, sp xs st Q → rd_law_draw { nx := fun _ st' => Fg Q (.d .none) st', rt := Fg Q } (startD 8 xs) st) : Cl P w K mg base "_law_draw" 1 sp :=
  ⟨f, fd, ["m", "below"], hm, Fu.kp, fn_ok Fu S_law_draw len (d_law_draw T ) sem, Fu.binds fun _ _ _ _ _ _ us hl => match us, hl with | [_, _], _ => rfl⟩
abbrev s_law_monomial : Stmt := top 41
abbrev N_law_monomial : List Str := ["m", "n", "top", "k"]
theorem S_law_monomial : FnScope N_law_monomial ["m", "n", "top"] (defScope s_law_monomial) := ⟨rfl, rfl, rfl, by decide +kernel, rfl, by decide +kernel, by decide +kernel⟩
theorem v_law_monomial_1 : visB N_law_monomial (defScope s_law_monomial) 1 "n" = true := by decide +kernel
theorem g_law_monomial_range : glB (defScope s_law_monomial) "range" = true := by decide +kernel
theorem g_law_monomial_tuple : glB (defScope s_law_monomial) "tuple" = true := by decide +kernel
set_option maxHeartbeats 4000000 in
theorem d_law_monomial {sp_law_draw : SpD} (T : Tx mg) (C_law_draw : Cl P w K mg base "_law_draw" 1 sp_law_draw) : ∀ X, Cok P w K mg base X N_law_monomial (defScope s_law_monomial) (defScope s_law_monomial) 1 → DSs X (defBody s_law_monomial) (rd_law_monomial sp_law_draw) := fun X c =>
  (ds_one (ds_ret (de_ct c g_law_monomial_tuple T.b_tuple bt_tuple c_tuple (da_cons (de_lc false [("k", 3)] c (by decide +kernel) (by decide) (di_rng1 c g_law_monomial_range T.b_range (da_cons (de_var c v_law_monomial_1) da_nil)) (fun _ c1 => (dg_name c1 (by decide +kernel))) (fun _ c1 => dts_nil) (fun _ c1 => (de_if (dt_cp op_qGt rfl (de_callC c1 (by decide +kernel) C_law_draw (by decide) (da_cons (de_var c1 (by decide +kernel)) (da_cons de_int da_nil))) de_int) (de_callC c1 (by decide +kernel) C_law_draw (by decide) (da_cons (de_var c1 (by decide +kernel)) (da_cons (de_bin (op_qAdd false) (de_var c1 (by decide +kernel)) de_int) da_nil))) de_int))) da_nil))))
theorem o_law_monomial {sp_law_draw : SpD} (T : Tx mg) (C_law_draw : Cl P w K mg base "_law_draw" 1 sp_law_draw) {f : Addr} {fd : FuncData} {sp : SpD} (Fu : Fun K "_law_monomial" "_law_monomial" s_law_monomial f fd) (hm : mg "_law_monomial" = some (.ref f)) (len : ∀ xs st Q, sp xs st Q → xs.length = 3) (sem : ∀ xs st Q, sp xs st Q → rd_law_monomial sp_law_draw { nx := fun _ st' => Fg Q (.d .none) st', rt := Fg Q } (startD 4 xs) st) : Cl P w K mg base "_law_monomial" 2 sp :=
  ⟨f, fd, ["m", "n", "top"], hm, Fu.kp, fn_ok Fu S_law_monomial len (d_law_monomial T C_law_draw) sem, Fu.binds fun _ _ _ _ _ _ us hl => match us, hl with | [_, _, _], _ => rfl⟩
abbrev s_law_divides : Stmt := top 37
abbrev N_law_divides : List Str := ["a", "b", "k"]
theorem S_law_divides : FnScope N_law_divides ["a", "b"] (defScope s_law_divides) := ⟨rfl, rfl, rfl, by decide +kernel, rfl, by decide +kernel, by decide +kernel⟩
theorem v_law_divides_0 : visB N_law_divides (defScope s_law_divides) 0 "a" = true := by decide +kernel
theorem g_law_divides_len : glB (defScope s_law_divides) "len" = true := by decide +kernel
theorem g_law_divides_range : glB (defScope s_law_divides) "range" = true := by decide +kernel
set_option maxHeartbeats 4000000 in
theorem d_law_divides  (T : Tx mg)  : ∀ X, Cok P w K mg base X N_law_divides (defScope s_law_divides) (defScope s_law_divides) 0 → DSs X (defBody s_law_divides) (rd_law_divides) := fun X c =>
  (ds_one (ds_ret (de_cp (op_qEq c.hu64) rfl (de_lc false [("k", 2)] c (by decide +kernel) (by decide) (di_rng1 c g_law_divides_range T.b_range (da_cons (de_cb c g_law_divides_len T.b_len bb_len c_len (da_cons (de_var c v_law_divides_0) da_nil)) da_nil)) (fun _ c1 => (dg_name c1 (by decide +kernel))) (fun _ c1 => (dts_one (dt_cp op_qGt rfl (de_ix (de_var c1 (by decide +kernel)) (de_var c1 (by decide +kernel)) (fun _ _ => rfl)) (de_ix (de_var c1 (by decide +kernel)) (de_var c1 (by decide +kernel)) (fun _ _ => rfl))))) (fun _ c1 => (de_var c1 (by decide +kernel)))) (de_lst false da_nil))))
theorem o_law_divides  (T : Tx mg)  {f : Addr} {fd : FuncData} {sp : SpD} (Fu : Fun K "_law_divides" "_law_divides" s_law_divides f fd) (hm : mg "_law_divides" = some (.ref f)) (len : ∀ xs st Q, sp xs st Q → xs.length = 2) (sem : ∀ xs st Q, sp xs st Q → rd_law_divides { nx := fun _ st' => Fg Q (.d .none) st', rt := Fg Q } (startD 3 xs) st) : Cl P w K mg base "_law_divides" 1 sp :=
  ⟨f, fd, ["a", "b"], hm, Fu.kp, fn_ok Fu S_law_divides len (d_law_divides T ) sem, Fu.binds fun _ _ _ _ _ _ us hl => match us, hl with | [_, _], _ => rfl⟩
abbrev s_law_least : Stmt := top 39
abbrev N_law_least : List Str := ["monomials", "some", "a", "b"]
theorem S_law_least : FnScope N_law_least ["monomials"] (defScope s_law_least) := ⟨rfl, rfl, rfl, by decide +kernel, rfl, by decide +kernel, by decide +kernel⟩
theorem v_law_least_0 : visB N_law_least (defScope s_law_least) 0 "monomials" = true := by decide +kernel
theorem v_law_least_1 : visB N_law_least (defScope s_law_least) 1 "some" = true := by decide +kernel
theorem l_law_least_1 : locB N_law_least (defScope s_law_least) (defScope s_law_least) 1 "some" = true := by decide +kernel
theorem g_law_least_sorted : glB (defScope s_law_least) "sorted" = true := by decide +kernel
theorem g_law_least_set : glB (defScope s_law_least) "set" = true := by decide +kernel
theorem g_law_least_tuple : glB (defScope s_law_least) "tuple" = true := by decide +kernel
set_option maxHeartbeats 4000000 in
theorem d_law_least {sp_law_divides : SpD} (T : Tx mg) (C_law_divides : Cl P w K mg base "_law_divides" 1 sp_law_divides) : ∀ X, Cok P w K mg base X N_law_least (defScope s_law_least) (defScope s_law_least) 1 → DSs X (defBody s_law_least) (rd_law_least sp_law_divides) := fun X c =>
  (ds_cons (ds_asg c (BS.de_sortB false c g_law_least_sorted T.b_sorted g_law_least_set T.b_set (de_var c v_law_least_0)) (dg_name c l_law_least_1) rfl rfl)
  (ds_one (ds_ret (de_ct c g_law_least_tuple T.b_tuple bt_tuple c_tuple (da_cons (de_lc false [("a", 2)] c (by decide +kernel) (by decide) (di_seq (de_var c v_law_least_1)) (fun _ c1 => (dg_name c1 (by decide +kernel))) (fun _ c1 => (dts_one (dt_cp (op_qEq c1.hu64) rfl (de_lc false [("b", 3)] c1 (by decide +kernel) (by decide) (di_seq (de_var c1 (by decide +kernel))) (fun _ c2 => (dg_name c2 (by decide +kernel))) (fun _ c2 => (dts_one (DW.pt (dw_and (dt_cp (op_qNe c2.hu64) rfl (de_var c2 (by decide +kernel)) (de_var c2 (by decide +kernel))) (dw_and1 (dt_val (de_callC c2 (by decide +kernel) C_law_divides (by decide) (da_cons (de_var c2 (by decide +kernel)) (da_cons (de_var c2 (by decide +kernel)) da_nil))))))))) (fun _ c2 => (de_var c2 (by decide +kernel)))) (de_lst false da_nil)))) (fun _ c1 => (de_var c1 (by decide +kernel)))) da_nil)))))
theorem o_law_least {sp_law_divides : SpD} (T : Tx mg) (C_law_divides : Cl P w K mg base "_law_divides" 1 sp_law_divides) {f : Addr} {fd : FuncData} {sp : SpD} (Fu : Fun K "_law_least" "_law_least" s_law_least f fd) (hm : mg "_law_least" = some (.ref f)) (len : ∀ xs st Q, sp xs st Q → xs.length = 1) (sem : ∀ xs st Q, sp xs st Q → rd_law_least sp_law_divides { nx := fun _ st' => Fg Q (.d .none) st', rt := Fg Q } (startD 4 xs) st) : Cl P w K mg base "_law_least" 2 sp :=
  ⟨f, fd, ["monomials"], hm, Fu.kp, fn_ok Fu S_law_least len (d_law_least T C_law_divides) sem, Fu.binds fun _ _ _ _ _ _ us hl => match us, hl with | [_], _ => rfl⟩
abbrev s_law_ideal : Stmt := top 42
abbrev N_law_ideal : List Str := ["m", "n", "count", "top", "some", "k", "a"]
theorem S_law_ideal : FnScope N_law_ideal ["m", "n", "count", "top"] (defScope s_law_ideal) := ⟨rfl, rfl, rfl, by decide +kernel, rfl, by decide +kernel, by decide +kernel⟩
theorem v_law_ideal_0 : visB N_law_ideal (defScope s_law_ideal) 0 "m" = true := by decide +kernel
theorem v_law_ideal_1 : visB N_law_ideal (defScope s_law_ideal) 1 "n" = true := by decide +kernel
theorem v_law_ideal_2 : visB N_law_ideal (defScope s_law_ideal) 2 "count" = true := by decide +kernel
theorem v_law_ideal_4 : visB N_law_ideal (defScope s_law_ideal) 4 "some" = true := by decide +kernel
theorem g_law_ideal_law_draw : glB (defScope s_law_ideal) "_law_draw" = true := by decide +kernel
theorem g_law_ideal_range : glB (defScope s_law_ideal) "range" = true := by decide +kernel
theorem g_law_ideal_law_least : glB (defScope s_law_ideal) "_law_least" = true := by decide +kernel
set_option maxHeartbeats 4000000 in
theorem d_law_ideal {sp_law_draw : SpD} {sp_law_monomial : SpD} {sp_law_least : SpD} (T : Tx mg) (C_law_draw : Cl P w K mg base "_law_draw" 1 sp_law_draw) (C_law_monomial : Cl P w K mg base "_law_monomial" 2 sp_law_monomial) (C_law_least : Cl P w K mg base "_law_least" 2 sp_law_least) : ∀ X, Cok P w K mg base X N_law_ideal (defScope s_law_ideal) (defScope s_law_ideal) 2 → DSs X (defBody s_law_ideal) (rd_law_ideal sp_law_draw sp_law_monomial sp_law_least) := fun X c =>
  (ds_cons (ds_setLc (i := 4) false [("k", 5)] c (by decide +kernel) (by kernel_rfl) (by decide +kernel) (by decide) (di_rng1 c g_law_ideal_range T.b_range (da_cons (de_callC c g_law_ideal_law_draw C_law_draw (by decide) (da_cons (de_var c v_law_ideal_0) (da_cons (de_bin (op_qAdd false) (de_var c v_law_ideal_2) de_int) da_nil))) da_nil)) (fun _ c1 => (dg_name c1 (by decide +kernel))) (fun _ c1 => dts_nil) (fun _ c1 => (de_callC c1 (by decide +kernel) C_law_monomial (by decide) (da_cons (de_var c1 (by decide +kernel)) (da_cons (de_var c1 (by decide +kernel)) (da_cons (de_var c1 (by decide +kernel)) da_nil))))))
  (ds_one (ds_ret (de_tup (da_cons (de_var c v_law_ideal_1) (da_cons (de_callC c g_law_ideal_law_least C_law_least (by decide) (da_cons (de_lc false [("a", 6)] c (by decide +kernel) (by decide) (di_seq (de_var c v_law_ideal_4)) (fun _ c1 => (dg_name c1 (by decide +kernel))) (fun _ c1 => (dts_one (dt_cp op_qGt rfl (de_cb c1 (by decide +kernel) T.b_sum bb_sum (c_sum c1.calm) (da_cons (de_var c1 (by decide +kernel)) da_nil)) de_int))) (fun _ c1 => (de_var c1 (by decide +kernel)))) da_nil)) da_nil))))))
theorem o_law_ideal {sp_law_draw : SpD} {sp_law_monomial : SpD} {sp_law_least : SpD} (T : Tx mg) (C_law_draw : Cl P w K mg base "_law_draw" 1 sp_law_draw) (C_law_monomial : Cl P w K mg base "_law_monomial" 2 sp_law_monomial) (C_law_least : Cl P w K mg base "_law_least" 2 sp_law_least) {f : Addr} {fd : FuncData} {sp : SpD} (Fu : Fun K "_law_ideal" "_law_ideal" s_law_ideal f fd) (hm : mg "_law_ideal" = some (.ref f)) (len : ∀ xs st Q, sp xs st Q → xs.length = 4) (sem : ∀ xs st Q, sp xs st Q → rd_law_ideal sp_law_draw sp_law_monomial sp_law_least { nx := fun _ st' => Fg Q (.d .none) st', rt := Fg Q } (startD 7 xs) st) : Cl P w K mg base "_law_ideal" 3 sp :=
  ⟨f, fd, ["m", "n", "count", "top"], hm, Fu.kp, fn_ok Fu S_law_ideal len (d_law_ideal T C_law_draw C_law_monomial C_law_least) sem, Fu.binds fun _ _ _ _ _ _ us hl => match us, hl with | [_, _, _, _], _ => rfl⟩
abbrev s_law_small : Stmt := top 44
abbrev N_law_small : List Str := ["m", "n", "count", "top", "ideal"]
theorem S_law_small : FnScope N_law_small ["m", "n", "count", "top"] (defScope s_law_small) := ⟨rfl, rfl, rfl, by decide +kernel, rfl, by decide +kernel, by decide +kernel⟩
theorem v_law_small_0 : visB N_law_small (defScope s_law_small) 0 "m" = true := by decide +kernel
theorem v_law_small_1 : visB N_law_small (defScope s_law_small) 1 "n" = true := by decide +kernel
theorem v_law_small_2 : visB N_law_small (defScope s_law_small) 2 "count" = true := by decide +kernel
theorem v_law_small_3 : visB N_law_small (defScope s_law_small) 3 "top" = true := by decide +kernel
theorem v_law_small_4 : visB N_law_small (defScope s_law_small) 4 "ideal" = true := by decide +kernel
theorem l_law_small_4 : locB N_law_small (defScope s_law_small) (defScope s_law_small) 4 "ideal" = true := by decide +kernel
theorem g_law_small_law_ideal : glB (defScope s_law_small) "_law_ideal" = true := by decide +kernel
set_option maxHeartbeats 4000000 in
theorem d_law_small {sp_law_ideal : SpD} (T : Tx mg) (C_law_ideal : Cl P w K mg base "_law_ideal" 3 sp_law_ideal) : ∀ X, Cok P w K mg base X N_law_small (defScope s_law_small) (defScope s_law_small) 3 → DSs X (defBody s_law_small) (rd_law_small sp_law_ideal) := fun X c =>
  (ds_cons (ds_asg c (de_callC c g_law_small_law_ideal C_law_ideal (by decide) (da_cons (de_var c v_law_small_0) (da_cons (de_var c v_law_small_1) (da_cons (de_var c v_law_small_2) (da_cons (de_var c v_law_small_3) da_nil))))) (dg_name c l_law_small_4) rfl rfl)
  (ds_one (ds_ret (de_tup (da_cons (de_var c v_law_small_1) (da_cons (de_sl false (de_ix (de_var c v_law_small_4) de_int (fun _ _ => rfl)) do_none (do_some (de_var c v_law_small_2))) da_nil))))))
theorem o_law_small {sp_law_ideal : SpD} (T : Tx mg) (C_law_ideal : Cl P w K mg base "_law_ideal" 3 sp_law_ideal) {f : Addr} {fd : FuncData} {sp : SpD} (Fu : Fun K "_law_small" "_law_small" s_law_small f fd) (hm : mg "_law_small" = some (.ref f)) (len : ∀ xs st Q, sp xs st Q → xs.length = 4) (sem : ∀ xs st Q, sp xs st Q → rd_law_small sp_law_ideal { nx := fun _ st' => Fg Q (.d .none) st', rt := Fg Q } (startD 5 xs) st) : Cl P w K mg base "_law_small" 4 sp :=
  ⟨f, fd, ["m", "n", "count", "top"], hm, Fu.kp, fn_ok Fu S_law_small len (d_law_small T C_law_ideal) sem, Fu.binds fun _ _ _ _ _ _ us hl => match us, hl with | [_, _, _, _], _ => rfl⟩
abbrev s_want_small : Stmt := top 17
abbrev N_want_small : List Str := ["ideal"]
theorem S_want_small : FnScope N_want_small ["ideal"] (defScope s_want_small) := ⟨rfl, rfl, rfl, by decide +kernel, rfl, by decide +kernel, by decide +kernel⟩
theorem v_want_small_0 : visB N_want_small (defScope s_want_small) 0 "ideal" = true := by decide +kernel
theorem g_want_small_SMALL_VARIABLES : glB (defScope s_want_small) "SMALL_VARIABLES" = true := by decide +kernel
theorem g_want_small_len : glB (defScope s_want_small) "len" = true := by decide +kernel
theorem g_want_small_SMALL_GENERATORS : glB (defScope s_want_small) "SMALL_GENERATORS" = true := by decide +kernel
set_option maxHeartbeats 4000000 in
theorem d_want_small  (T : Tx mg)  : ∀ X, Cok P w K mg base X N_want_small (defScope s_want_small) (defScope s_want_small) 0 → DSs X (defBody s_want_small) (rd_want_small) := fun X c =>
  (ds_cons (ds_if (dt_cp op_qGt rfl (de_ix (de_var c v_want_small_0) de_int (fun _ _ => rfl)) (de_gint c g_want_small_SMALL_VARIABLES T.c_SMALL_VARIABLES)) (ds_one ds_never) ds_nil)
  (ds_one (ds_if (dt_cp op_qGt rfl (de_cb c g_want_small_len T.b_len bb_len c_len (da_cons (de_ix (de_var c v_want_small_0) de_int (fun _ _ => rfl)) da_nil)) (de_gint c g_want_small_SMALL_GENERATORS T.c_SMALL_GENERATORS)) (ds_one ds_never) ds_nil)))
theorem o_want_small  (T : Tx mg)  {f : Addr} {fd : FuncData} {sp : SpD} (Fu : Fun K "want_small" "want_small" s_want_small f fd) (hm : mg "want_small" = some (.ref f)) (len : ∀ xs st Q, sp xs st Q → xs.length = 1) (sem : ∀ xs st Q, sp xs st Q → rd_want_small { nx := fun _ st' => Fg Q (.d .none) st', rt := Fg Q } (startD 1 xs) st) : Cl P w K mg base "want_small" 1 sp :=
  ⟨f, fd, ["ideal"], hm, Fu.kp, fn_ok Fu S_want_small len (d_want_small T ) sem, Fu.binds fun _ _ _ _ _ _ us hl => match us, hl with | [_], _ => rfl⟩
abbrev s_as_pairs : Stmt := top 21
abbrev N_as_pairs : List Str := ["table", "one", "number"]
theorem S_as_pairs : FnScope N_as_pairs ["table"] (defScope s_as_pairs) := ⟨rfl, rfl, rfl, by decide +kernel, rfl, by decide +kernel, by decide +kernel⟩
theorem v_as_pairs_0 : visB N_as_pairs (defScope s_as_pairs) 0 "table" = true := by decide +kernel
theorem g_as_pairs_sorted : glB (defScope s_as_pairs) "sorted" = true := by decide +kernel
theorem g_as_pairs_tuple : glB (defScope s_as_pairs) "tuple" = true := by decide +kernel
set_option maxHeartbeats 4000000 in
theorem d_as_pairs  (T : Tx mg)  : ∀ X, Cok P w K mg base X N_as_pairs (defScope s_as_pairs) (defScope s_as_pairs) 0 → DSs X (defBody s_as_pairs) (rd_as_pairs) := fun X c =>
  (ds_one (ds_ret (de_ct c g_as_pairs_tuple T.b_tuple bt_tuple c_tuple (da_cons (de_sortD false c g_as_pairs_sorted T.b_sorted (de_lock 0 (de_lc false [("one", 1), ("number", 2)] c (by decide +kernel) (by decide) (di_items (de_var c v_as_pairs_0)) (fun _ c1 => (dg_tup c1 (dgs_cons (dg_name c1 (by decide +kernel)) (dgs_cons (dg_name c1 (by decide +kernel)) dgs_nil)))) (fun _ c1 => (dts_one (dt_cp (op_qNe c1.hu64) rfl (de_var c1 (by decide +kernel)) de_int))) (fun _ c1 => (de_tup (da_cons (de_var c1 (by decide +kernel)) (da_cons (de_var c1 (by decide +kernel)) da_nil))))))) da_nil))))
theorem o_as_pairs  (T : Tx mg)  {f : Addr} {fd : FuncData} {sp : SpD} (Fu : Fun K "as_pairs" "as_pairs" s_as_pairs f fd) (hm : mg "as_pairs" = some (.ref f)) (len : ∀ xs st Q, sp xs st Q → xs.length = 1) (sem : ∀ xs st Q, sp xs st Q → rd_as_pairs { nx := fun _ st' => Fg Q (.d .none) st', rt := Fg Q } (startD 3 xs) st) : Cl P w K mg base "as_pairs" 1 sp :=
  ⟨f, fd, ["table"], hm, Fu.kp, fn_ok Fu S_as_pairs len (d_as_pairs T ) sem, Fu.binds fun _ _ _ _ _ _ us hl => match us, hl with | [_], _ => rfl⟩
abbrev s_lcm_of : Stmt := top 7
abbrev N_lcm_of : List Str := ["a", "b", "one", "other"]
theorem S_lcm_of : FnScope N_lcm_of ["a", "b"] (defScope s_lcm_of) := ⟨rfl, rfl, rfl, by decide +kernel, rfl, by decide +kernel, by decide +kernel⟩
theorem v_lcm_of_0 : visB N_lcm_of (defScope s_lcm_of) 0 "a" = true := by decide +kernel
theorem v_lcm_of_1 : visB N_lcm_of (defScope s_lcm_of) 1 "b" = true := by decide +kernel
theorem g_lcm_of_zip : glB (defScope s_lcm_of) "zip" = true := by decide +kernel
theorem g_lcm_of_tuple : glB (defScope s_lcm_of) "tuple" = true := by decide +kernel
set_option maxHeartbeats 4000000 in
theorem d_lcm_of  (T : Tx mg)  : ∀ X, Cok P w K mg base X N_lcm_of (defScope s_lcm_of) (defScope s_lcm_of) 0 → DSs X (defBody s_lcm_of) (rd_lcm_of) := fun X c =>
  (ds_one (ds_ret (de_ct c g_lcm_of_tuple T.b_tuple bt_tuple c_tuple (da_cons (de_lc false [("one", 2), ("other", 3)] c (by decide +kernel) (by decide) (di_zip c g_lcm_of_zip T.b_zip (da_cons (de_var c v_lcm_of_0) (da_cons (de_var c v_lcm_of_1) da_nil))) (fun _ c1 => (dg_tup c1 (dgs_cons (dg_name c1 (by decide +kernel)) (dgs_cons (dg_name c1 (by decide +kernel)) dgs_nil)))) (fun _ c1 => dts_nil) (fun _ c1 => (de_cb c1 (by decide +kernel) T.b_max bb_max (c_max2 c1.calm) (da_cons (de_var c1 (by decide +kernel)) (da_cons (de_var c1 (by decide +kernel)) da_nil))))) da_nil))))
theorem o_lcm_of  (T : Tx mg)  {f : Addr} {fd : FuncData} {sp : SpD} (Fu : Fun K "lcm_of" "lcm_of" s_lcm_of f fd) (hm : mg "lcm_of" = some (.ref f)) (len : ∀ xs st Q, sp xs st Q → xs.length = 2) (sem : ∀ xs st Q, sp xs st Q → rd_lcm_of { nx := fun _ st' => Fg Q (.d .none) st', rt := Fg Q } (startD 4 xs) st) : Cl P w K mg base "lcm_of" 1 sp :=
  ⟨f, fd, ["a", "b"], hm, Fu.kp, fn_ok Fu S_lcm_of len (d_lcm_of T ) sem, Fu.binds fun _ _ _ _ _ _ us hl => match us, hl with | [_, _], _ => rfl⟩
abbrev s_numerator : Stmt := top 22
abbrev N_numerator : List Str := ["ideal", "table", "generator", "one", "number", "multiple"]
theorem S_numerator : FnScope N_numerator ["ideal"] (defScope s_numerator) := ⟨rfl, rfl, rfl, by decide +kernel, rfl, by decide +kernel, by decide +kernel⟩
theorem v_numerator_0 : visB N_numerator (defScope s_numerator) 0 "ideal" = true := by decide +kernel
theorem v_numerator_1 : visB N_numerator (defScope s_numerator) 1 "table" = true := by decide +kernel
theorem l_numerator_1 : locB N_numerator (defScope s_numerator) (defScope s_numerator) 1 "table" = true := by decide +kernel
theorem v_numerator_2 : visB N_numerator (defScope s_numerator) 2 "generator" = true := by decide +kernel
theorem l_numerator_2 : locB N_numerator (defScope s_numerator) (defScope s_numerator) 2 "generator" = true := by decide +kernel
theorem v_numerator_3 : visB N_numerator (defScope s_numerator) 3 "one" = true := by decide +kernel
theorem l_numerator_3 : locB N_numerator (defScope s_numerator) (defScope s_numerator) 3 "one" = true := by decide +kernel
theorem v_numerator_4 : visB N_numerator (defScope s_numerator) 4 "number" = true := by decide +kernel
theorem l_numerator_4 : locB N_numerator (defScope s_numerator) (defScope s_numerator) 4 "number" = true := by decide +kernel
theorem v_numerator_5 : visB N_numerator (defScope s_numerator) 5 "multiple" = true := by decide +kernel
theorem l_numerator_5 : locB N_numerator (defScope s_numerator) (defScope s_numerator) 5 "multiple" = true := by decide +kernel
theorem g_numerator_want_small : glB (defScope s_numerator) "want_small" = true := by decide +kernel
theorem g_numerator_list : glB (defScope s_numerator) "list" = true := by decide +kernel
theorem g_numerator_lcm_of : glB (defScope s_numerator) "lcm_of" = true := by decide +kernel
theorem g_numerator_as_pairs : glB (defScope s_numerator) "as_pairs" = true := by decide +kernel
set_option maxHeartbeats 4000000 in
theorem d_numerator {sp_want_small : SpD} {sp_lcm_of : SpD} {sp_as_pairs : SpD} (T : Tx mg) (C_want_small : Cl P w K mg base "want_small" 1 sp_want_small) (C_lcm_of : Cl P w K mg base "lcm_of" 1 sp_lcm_of) (C_as_pairs : Cl P w K mg base "as_pairs" 1 sp_as_pairs) : ∀ X, Cok P w K mg base X N_numerator (defScope s_numerator) (defScope s_numerator) 1 → DSs X (defBody s_numerator) (rd_numerator sp_want_small sp_lcm_of sp_as_pairs) := fun X c =>
  (ds_cons (ds_expr (de_callC c g_numerator_want_small C_want_small (by decide) (da_cons (de_var c v_numerator_0) da_nil)))
  (ds_cons (ds_asg c (de_dispT c (de_bin (op_qMul false) (de_tup (da_cons de_int da_nil)) (de_ix (de_var c v_numerator_0) de_int (fun _ _ => rfl))) de_int) (dg_name c l_numerator_1) rfl rfl)
  (ds_cons (ds_for c (di_seq (de_ix (de_var c v_numerator_0) de_int (fun _ _ => rfl))) (dg_name c l_numerator_2) (ds_one (ds_for c (di_seq (de_listItems false c g_numerator_list T.b_list (de_var c v_numerator_1))) (dg_tup c (dgs_cons (dg_name c l_numerator_3) (dgs_cons (dg_name c l_numerator_4) dgs_nil))) (ds_cons (ds_asg c (de_callC c g_numerator_lcm_of C_lcm_of (by decide) (da_cons (de_var c v_numerator_3) (da_cons (de_var c v_numerator_2) da_nil))) (dg_name c l_numerator_5) rfl rfl)
          (ds_one (ds_dput c (de_var c v_numerator_1) (de_var c v_numerator_5) (de_bin op_qSub (de_get c (de_var c v_numerator_1) (de_var c v_numerator_5) de_int) (de_var c v_numerator_4)) rfl))))))
  (ds_one (ds_ret (de_callC c g_numerator_as_pairs C_as_pairs (by decide) (da_cons (de_var c v_numerator_1) da_nil)))))))
theorem o_numerator {sp_want_small : SpD} {sp_lcm_of : SpD} {sp_as_pairs : SpD} (T : Tx mg) (C_want_small : Cl P w K mg base "want_small" 1 sp_want_small) (C_lcm_of : Cl P w K mg base "lcm_of" 1 sp_lcm_of) (C_as_pairs : Cl P w K mg base "as_pairs" 1 sp_as_pairs) {f : Addr} {fd : FuncData} {sp : SpD} (Fu : Fun K "numerator" "numerator" s_numerator f fd) (hm : mg "numerator" = some (.ref f)) (len : ∀ xs st Q, sp xs st Q → xs.length = 1) (sem : ∀ xs st Q, sp xs st Q → rd_numerator sp_want_small sp_lcm_of sp_as_pairs { nx := fun _ st' => Fg Q (.d .none) st', rt := Fg Q } (startD 6 xs) st) : Cl P w K mg base "numerator" 2 sp :=
  ⟨f, fd, ["ideal"], hm, Fu.kp, fn_ok Fu S_numerator len (d_numerator T C_want_small C_lcm_of C_as_pairs) sem, Fu.binds fun _ _ _ _ _ _ us hl => match us, hl with | [_], _ => rfl⟩
abbrev s_meet_of : Stmt := top 32
abbrev N_meet_of : List Str := ["a", "b", "one", "other"]
theorem S_meet_of : FnScope N_meet_of ["a", "b"] (defScope s_meet_of) := ⟨rfl, rfl, rfl, by decide +kernel, rfl, by decide +kernel, by decide +kernel⟩
theorem v_meet_of_0 : visB N_meet_of (defScope s_meet_of) 0 "a" = true := by decide +kernel
theorem g_meet_of_made : glB (defScope s_meet_of) "made" = true := by decide +kernel
set_option maxHeartbeats 4000000 in
theorem d_meet_of {sp_lcm_of : SpD} {sp_made : SpD} (T : Tx mg) (C_lcm_of : Cl P w K mg base "lcm_of" 1 sp_lcm_of) (C_made : Cl P w K mg base "made" 3 sp_made) : ∀ X, Cok P w K mg base X N_meet_of (defScope s_meet_of) (defScope s_meet_of) 3 → DSs X (defBody s_meet_of) (rd_meet_of sp_lcm_of sp_made) := fun X c =>
  (ds_one (ds_ret (de_callC c g_meet_of_made C_made (by decide) (da_cons (de_ix (de_var c v_meet_of_0) de_int (fun _ _ => rfl)) (da_cons (de_lc2 false [("one", 2), ("other", 3)] [3] c (by decide +kernel) (by decide) (by decide) (by decide) (di_seq (de_ix (de_var c v_meet_of_0) de_int (fun _ _ => rfl))) (fun _ c1 => (dg_name c1 (by decide +kernel))) (fun _ c1 => dts_nil) (fun _ c1 => (di_seq (de_ix (de_var c1 (by decide +kernel)) de_int (fun _ _ => rfl)))) (fun _ c1 => (dg_name c1 (by decide +kernel))) (fun _ c1 => dts_nil) (fun _ c1 => (de_callC c1 (by decide +kernel) C_lcm_of (by decide) (da_cons (de_var c1 (by decide +kernel)) (da_cons (de_var c1 (by decide +kernel)) da_nil))))) da_nil)))))
theorem o_meet_of {sp_lcm_of : SpD} {sp_made : SpD} (T : Tx mg) (C_lcm_of : Cl P w K mg base "lcm_of" 1 sp_lcm_of) (C_made : Cl P w K mg base "made" 3 sp_made) {f : Addr} {fd : FuncData} {sp : SpD} (Fu : Fun K "meet_of" "meet_of" s_meet_of f fd) (hm : mg "meet_of" = some (.ref f)) (len : ∀ xs st Q, sp xs st Q → xs.length = 2) (sem : ∀ xs st Q, sp xs st Q → rd_meet_of sp_lcm_of sp_made { nx := fun _ st' => Fg Q (.d .none) st', rt := Fg Q } (startD 4 xs) st) : Cl P w K mg base "meet_of" 4 sp :=
  ⟨f, fd, ["a", "b"], hm, Fu.kp, fn_ok Fu S_meet_of len (d_meet_of T C_lcm_of C_made) sem, Fu.binds fun _ _ _ _ _ _ us hl => match us, hl with | [_, _], _ => rfl⟩
abbrev s_count_by : Stmt := top 28
abbrev N_count_by : List Str := ["n", "row", "degree", "total", "shift", "number"]
theorem S_count_by : FnScope N_count_by ["n", "row", "degree"] (defScope s_count_by) := ⟨rfl, rfl, rfl, by decide +kernel, rfl, by decide +kernel, by decide +kernel⟩
theorem v_count_by_0 : visB N_count_by (defScope s_count_by) 0 "n" = true := by decide +kernel
theorem v_count_by_1 : visB N_count_by (defScope s_count_by) 1 "row" = true := by decide +kernel
theorem v_count_by_2 : visB N_count_by (defScope s_count_by) 2 "degree" = true := by decide +kernel
theorem v_count_by_3 : visB N_count_by (defScope s_count_by) 3 "total" = true := by decide +kernel
theorem l_count_by_3 : locB N_count_by (defScope s_count_by) (defScope s_count_by) 3 "total" = true := by decide +kernel
theorem v_count_by_4 : visB N_count_by (defScope s_count_by) 4 "shift" = true := by decide +kernel
theorem l_count_by_4 : locB N_count_by (defScope s_count_by) (defScope s_count_by) 4 "shift" = true := by decide +kernel
theorem v_count_by_5 : visB N_count_by (defScope s_count_by) 5 "number" = true := by decide +kernel
theorem l_count_by_5 : locB N_count_by (defScope s_count_by) (defScope s_count_by) 5 "number" = true := by decide +kernel
theorem g_count_by_enumerate : glB (defScope s_count_by) "enumerate" = true := by decide +kernel
theorem g_count_by_comb : glB (defScope s_count_by) "comb" = true := by decide +kernel
set_option maxHeartbeats 4000000 in
theorem d_count_by  (T : Tx mg)  : ∀ X, Cok P w K mg base X N_count_by (defScope s_count_by) (defScope s_count_by) 0 → DSs X (defBody s_count_by) (rd_count_by) := fun X c =>
  (ds_cons (ds_asg c de_int (dg_name c l_count_by_3) rfl rfl)
  (ds_cons (ds_for c (di_enum c g_count_by_enumerate T.b_enumerate (da_cons (de_var c v_count_by_1) da_nil)) (dg_tup c (dgs_cons (dg_name c l_count_by_4) (dgs_cons (dg_name c l_count_by_5) dgs_nil))) (ds_one (ds_if (dt_cp op_qLe rfl (de_var c v_count_by_4) (de_var c v_count_by_2)) (ds_one (ds_aug c l_count_by_3 ip_add (de_bin (op_qMul false) (de_var c v_count_by_5) (de_fun c g_count_by_comb T.m_comb c_comb (da_cons (de_bin op_qSub (de_bin (op_qAdd false) (de_bin op_qSub (de_var c v_count_by_2) (de_var c v_count_by_4)) (de_var c v_count_by_0)) de_int) (da_cons (de_bin op_qSub (de_var c v_count_by_0) de_int) da_nil)))))) ds_nil)))
  (ds_one (ds_ret (de_var c v_count_by_3)))))
theorem o_count_by  (T : Tx mg)  {f : Addr} {fd : FuncData} {sp : SpD} (Fu : Fun K "count_by" "count_by" s_count_by f fd) (hm : mg "count_by" = some (.ref f)) (len : ∀ xs st Q, sp xs st Q → xs.length = 3) (sem : ∀ xs st Q, sp xs st Q → rd_count_by { nx := fun _ st' => Fg Q (.d .none) st', rt := Fg Q } (startD 6 xs) st) : Cl P w K mg base "count_by" 1 sp :=
  ⟨f, fd, ["n", "row", "degree"], hm, Fu.kp, fn_ok Fu S_count_by len (d_count_by T ) sem, Fu.binds fun _ _ _ _ _ _ us hl => match us, hl with | [_, _, _], _ => rfl⟩
abbrev s_graded_numerator : Stmt := top 27
abbrev N_graded_numerator : List Str := ["ideal", "sums", "one", "number", "row", "degree"]
theorem S_graded_numerator : FnScope N_graded_numerator ["ideal"] (defScope s_graded_numerator) := ⟨rfl, rfl, rfl, by decide +kernel, rfl, by decide +kernel, by decide +kernel⟩
theorem v_graded_numerator_0 : visB N_graded_numerator (defScope s_graded_numerator) 0 "ideal" = true := by decide +kernel
theorem v_graded_numerator_1 : visB N_graded_numerator (defScope s_graded_numerator) 1 "sums" = true := by decide +kernel
theorem l_graded_numerator_1 : locB N_graded_numerator (defScope s_graded_numerator) (defScope s_graded_numerator) 1 "sums" = true := by decide +kernel
theorem v_graded_numerator_2 : visB N_graded_numerator (defScope s_graded_numerator) 2 "one" = true := by decide +kernel
theorem l_graded_numerator_2 : locB N_graded_numerator (defScope s_graded_numerator) (defScope s_graded_numerator) 2 "one" = true := by decide +kernel
theorem v_graded_numerator_3 : visB N_graded_numerator (defScope s_graded_numerator) 3 "number" = true := by decide +kernel
theorem l_graded_numerator_3 : locB N_graded_numerator (defScope s_graded_numerator) (defScope s_graded_numerator) 3 "number" = true := by decide +kernel
theorem v_graded_numerator_4 : visB N_graded_numerator (defScope s_graded_numerator) 4 "row" = true := by decide +kernel
theorem g_graded_numerator_numerator : glB (defScope s_graded_numerator) "numerator" = true := by decide +kernel
theorem g_graded_numerator_sum : glB (defScope s_graded_numerator) "sum" = true := by decide +kernel
theorem g_graded_numerator_list : glB (defScope s_graded_numerator) "list" = true := by decide +kernel
theorem g_graded_numerator_max : glB (defScope s_graded_numerator) "max" = true := by decide +kernel
theorem g_graded_numerator_range : glB (defScope s_graded_numerator) "range" = true := by decide +kernel
theorem g_graded_numerator_tuple : glB (defScope s_graded_numerator) "tuple" = true := by decide +kernel
set_option maxHeartbeats 4000000 in
theorem d_graded_numerator {sp_numerator : SpD} (T : Tx mg) (C_numerator : Cl P w K mg base "numerator" 2 sp_numerator) : ∀ X, Cok P w K mg base X N_graded_numerator (defScope s_graded_numerator) (defScope s_graded_numerator) 2 → DSs X (defBody s_graded_numerator) (rd_graded_numerator sp_numerator) := fun X c =>
  (ds_cons (ds_asg c (de_dnew false) (dg_name c l_graded_numerator_1) rfl rfl)
  (ds_cons (ds_for c (di_seq (de_callC c g_graded_numerator_numerator C_numerator (by decide) (da_cons (de_var c v_graded_numerator_0) da_nil))) (dg_tup c (dgs_cons (dg_name c l_graded_numerator_2) (dgs_cons (dg_name c l_graded_numerator_3) dgs_nil))) (ds_one (ds_dput c (de_var c v_graded_numerator_1) (de_cb c g_graded_numerator_sum T.b_sum bb_sum (c_sum c.calm) (da_cons (de_var c v_graded_numerator_2) da_nil)) (de_bin (op_qAdd false) (de_get c (de_var c v_graded_numerator_1) (de_cb c g_graded_numerator_sum T.b_sum bb_sum (c_sum c.calm) (da_cons (de_var c v_graded_numerator_2) da_nil)) de_int) (de_var c v_graded_numerator_3)) rfl)))
  (ds_cons (ds_setLc (i := 4) true [("degree", 5)] c (by decide +kernel) (by kernel_rfl) (by decide +kernel) (by decide) (di_rng1 c g_graded_numerator_range T.b_range (da_cons (de_bin (op_qAdd false) (de_maxDf c g_graded_numerator_max T.b_max (de_ct c g_graded_numerator_list T.b_list bt_list (c_listDK false c.calm) (da_cons (de_var c v_graded_numerator_1) da_nil)) (de_neg de_int)) de_int) da_nil)) (fun _ c1 => (dg_name c1 (by decide +kernel))) (fun _ c1 => dts_nil) (fun _ c1 => (de_get c1 (de_var c1 (by decide +kernel)) (de_var c1 (by decide +kernel)) de_int)))
  (ds_cons (ds_while c (DW.pt (dw_and (dt_cp (op_qNe c.hu64) rfl (de_var c v_graded_numerator_4) (de_lst false da_nil)) (dw_and1 (dt_cp (op_qEq c.hu64) rfl (de_ix (de_var c v_graded_numerator_4) (de_neg de_int) (fun _ _ => rfl)) de_int)))) (ds_one (ds_expr (de_pop (de_var c v_graded_numerator_4)))))
  (ds_one (ds_ret (de_ct c g_graded_numerator_tuple T.b_tuple bt_tuple c_tuple (da_cons (de_var c v_graded_numerator_4) da_nil))))))))
theorem o_graded_numerator {sp_numerator : SpD} (T : Tx mg) (C_numerator : Cl P w K mg base "numerator" 2 sp_numerator) {f : Addr} {fd : FuncData} {sp : SpD} (Fu : Fun K "graded_numerator" "graded_numerator" s_graded_numerator f fd) (hm : mg "graded_numerator" = some (.ref f)) (len : ∀ xs st Q, sp xs st Q → xs.length = 1) (sem : ∀ xs st Q, sp xs st Q → rd_graded_numerator sp_numerator { nx := fun _ st' => Fg Q (.d .none) st', rt := Fg Q } (startD 6 xs) st) : Cl P w K mg base "graded_numerator" 3 sp :=
  ⟨f, fd, ["ideal"], hm, Fu.kp, fn_ok Fu S_graded_numerator len (d_graded_numerator T C_numerator) sem, Fu.binds fun _ _ _ _ _ _ us hl => match us, hl with | [_], _ => rfl⟩
abbrev s_count_left : Stmt := top 29
abbrev N_count_left : List Str := ["ideal", "degree"]
theorem S_count_left : FnScope N_count_left ["ideal", "degree"] (defScope s_count_left) := ⟨rfl, rfl, rfl, by decide +kernel, rfl, by decide +kernel, by decide +kernel⟩
theorem v_count_left_0 : visB N_count_left (defScope s_count_left) 0 "ideal" = true := by decide +kernel
theorem v_count_left_1 : visB N_count_left (defScope s_count_left) 1 "degree" = true := by decide +kernel
theorem g_count_left_graded_numerator : glB (defScope s_count_left) "graded_numerator" = true := by decide +kernel
theorem g_count_left_count_by : glB (defScope s_count_left) "count_by" = true := by decide +kernel
set_option maxHeartbeats 4000000 in
theorem d_count_left {sp_graded_numerator : SpD} {sp_count_by : SpD} (T : Tx mg) (C_graded_numerator : Cl P w K mg base "graded_numerator" 3 sp_graded_numerator) (C_count_by : Cl P w K mg base "count_by" 1 sp_count_by) : ∀ X, Cok P w K mg base X N_count_left (defScope s_count_left) (defScope s_count_left) 3 → DSs X (defBody s_count_left) (rd_count_left sp_graded_numerator sp_count_by) := fun X c =>
  (ds_one (ds_ret (de_callC c g_count_left_count_by C_count_by (by decide) (da_cons (de_ix (de_var c v_count_left_0) de_int (fun _ _ => rfl)) (da_cons (de_callC c g_count_left_graded_numerator C_graded_numerator (by decide) (da_cons (de_var c v_count_left_0) da_nil)) (da_cons (de_var c v_count_left_1) da_nil))))))
theorem o_count_left {sp_graded_numerator : SpD} {sp_count_by : SpD} (T : Tx mg) (C_graded_numerator : Cl P w K mg base "graded_numerator" 3 sp_graded_numerator) (C_count_by : Cl P w K mg base "count_by" 1 sp_count_by) {f : Addr} {fd : FuncData} {sp : SpD} (Fu : Fun K "count_left" "count_left" s_count_left f fd) (hm : mg "count_left" = some (.ref f)) (len : ∀ xs st Q, sp xs st Q → xs.length = 2) (sem : ∀ xs st Q, sp xs st Q → rd_count_left sp_graded_numerator sp_count_by { nx := fun _ st' => Fg Q (.d .none) st', rt := Fg Q } (startD 2 xs) st) : Cl P w K mg base "count_left" 4 sp :=
  ⟨f, fd, ["ideal", "degree"], hm, Fu.kp, fn_ok Fu S_count_left len (d_count_left T C_graded_numerator C_count_by) sem, Fu.binds fun _ _ _ _ _ _ us hl => match us, hl with | [_, _], _ => rfl⟩
abbrev s_sum_of : Stmt := top 31
abbrev N_sum_of : List Str := ["a", "b"]
theorem S_sum_of : FnScope N_sum_of ["a", "b"] (defScope s_sum_of) := ⟨rfl, rfl, rfl, by decide +kernel, rfl, by decide +kernel, by decide +kernel⟩
theorem v_sum_of_0 : visB N_sum_of (defScope s_sum_of) 0 "a" = true := by decide +kernel
theorem v_sum_of_1 : visB N_sum_of (defScope s_sum_of) 1 "b" = true := by decide +kernel
theorem g_sum_of_list : glB (defScope s_sum_of) "list" = true := by decide +kernel
theorem g_sum_of_made : glB (defScope s_sum_of) "made" = true := by decide +kernel
set_option maxHeartbeats 4000000 in
theorem d_sum_of {sp_made : SpD} (T : Tx mg) (C_made : Cl P w K mg base "made" 3 sp_made) : ∀ X, Cok P w K mg base X N_sum_of (defScope s_sum_of) (defScope s_sum_of) 3 → DSs X (defBody s_sum_of) (rd_sum_of sp_made) := fun X c =>
  (ds_one (ds_ret (de_callC c g_sum_of_made C_made (by decide) (da_cons (de_ix (de_var c v_sum_of_0) de_int (fun _ _ => rfl)) (da_cons (de_ct c g_sum_of_list T.b_list bt_list (c_list false) (da_cons (de_bin (op_qAdd false) (de_ix (de_var c v_sum_of_0) de_int (fun _ _ => rfl)) (de_ix (de_var c v_sum_of_1) de_int (fun _ _ => rfl))) da_nil)) da_nil)))))
theorem o_sum_of {sp_made : SpD} (T : Tx mg) (C_made : Cl P w K mg base "made" 3 sp_made) {f : Addr} {fd : FuncData} {sp : SpD} (Fu : Fun K "sum_of" "sum_of" s_sum_of f fd) (hm : mg "sum_of" = some (.ref f)) (len : ∀ xs st Q, sp xs st Q → xs.length = 2) (sem : ∀ xs st Q, sp xs st Q → rd_sum_of sp_made { nx := fun _ st' => Fg Q (.d .none) st', rt := Fg Q } (startD 2 xs) st) : Cl P w K mg base "sum_of" 4 sp :=
  ⟨f, fd, ["a", "b"], hm, Fu.kp, fn_ok Fu S_sum_of len (d_sum_of T C_made) sem, Fu.binds fun _ _ _ _ _ _ us hl => match us, hl with | [_, _], _ => rfl⟩
abbrev s_times : Stmt := top 8
abbrev N_times : List Str := ["a", "b", "one", "other"]
theorem S_times : FnScope N_times ["a", "b"] (defScope s_times) := ⟨rfl, rfl, rfl, by decide +kernel, rfl, by decide +kernel, by decide +kernel⟩
theorem v_times_0 : visB N_times (defScope s_times) 0 "a" = true := by decide +kernel
theorem v_times_1 : visB N_times (defScope s_times) 1 "b" = true := by decide +kernel
theorem g_times_zip : glB (defScope s_times) "zip" = true := by decide +kernel
theorem g_times_tuple : glB (defScope s_times) "tuple" = true := by decide +kernel
set_option maxHeartbeats 4000000 in
theorem d_times  (T : Tx mg)  : ∀ X, Cok P w K mg base X N_times (defScope s_times) (defScope s_times) 0 → DSs X (defBody s_times) (rd_times) := fun X c =>
  (ds_one (ds_ret (de_ct c g_times_tuple T.b_tuple bt_tuple c_tuple (da_cons (de_lc false [("one", 2), ("other", 3)] c (by decide +kernel) (by decide) (di_zip c g_times_zip T.b_zip (da_cons (de_var c v_times_0) (da_cons (de_var c v_times_1) da_nil))) (fun _ c1 => (dg_tup c1 (dgs_cons (dg_name c1 (by decide +kernel)) (dgs_cons (dg_name c1 (by decide +kernel)) dgs_nil)))) (fun _ c1 => dts_nil) (fun _ c1 => (de_bin (op_qAdd false) (de_var c1 (by decide +kernel)) (de_var c1 (by decide +kernel))))) da_nil))))
theorem o_times  (T : Tx mg)  {f : Addr} {fd : FuncData} {sp : SpD} (Fu : Fun K "times" "times" s_times f fd) (hm : mg "times" = some (.ref f)) (len : ∀ xs st Q, sp xs st Q → xs.length = 2) (sem : ∀ xs st Q, sp xs st Q → rd_times { nx := fun _ st' => Fg Q (.d .none) st', rt := Fg Q } (startD 4 xs) st) : Cl P w K mg base "times" 1 sp :=
  ⟨f, fd, ["a", "b"], hm, Fu.kp, fn_ok Fu S_times len (d_times T ) sem, Fu.binds fun _ _ _ _ _ _ us hl => match us, hl with | [_, _], _ => rfl⟩
abbrev s_cut : Stmt := top 9
abbrev N_cut : List Str := ["a", "b", "one", "other"]
theorem S_cut : FnScope N_cut ["a", "b"] (defScope s_cut) := ⟨rfl, rfl, rfl, by decide +kernel, rfl, by decide +kernel, by decide +kernel⟩
theorem v_cut_0 : visB N_cut (defScope s_cut) 0 "a" = true := by decide +kernel
theorem v_cut_1 : visB N_cut (defScope s_cut) 1 "b" = true := by decide +kernel
theorem g_cut_zip : glB (defScope s_cut) "zip" = true := by decide +kernel
theorem g_cut_tuple : glB (defScope s_cut) "tuple" = true := by decide +kernel
set_option maxHeartbeats 4000000 in
theorem d_cut  (T : Tx mg)  : ∀ X, Cok P w K mg base X N_cut (defScope s_cut) (defScope s_cut) 0 → DSs X (defBody s_cut) (rd_cut) := fun X c =>
  (ds_one (ds_ret (de_ct c g_cut_tuple T.b_tuple bt_tuple c_tuple (da_cons (de_lc false [("one", 2), ("other", 3)] c (by decide +kernel) (by decide) (di_zip c g_cut_zip T.b_zip (da_cons (de_var c v_cut_0) (da_cons (de_var c v_cut_1) da_nil))) (fun _ c1 => (dg_tup c1 (dgs_cons (dg_name c1 (by decide +kernel)) (dgs_cons (dg_name c1 (by decide +kernel)) dgs_nil)))) (fun _ c1 => dts_nil) (fun _ c1 => (de_cb c1 (by decide +kernel) T.b_max bb_max (c_max2 c1.calm) (da_cons (de_bin op_qSub (de_var c1 (by decide +kernel)) (de_var c1 (by decide +kernel))) (da_cons de_int da_nil))))) da_nil))))
theorem o_cut  (T : Tx mg)  {f : Addr} {fd : FuncData} {sp : SpD} (Fu : Fun K "cut" "cut" s_cut f fd) (hm : mg "cut" = some (.ref f)) (len : ∀ xs st Q, sp xs st Q → xs.length = 2) (sem : ∀ xs st Q, sp xs st Q → rd_cut { nx := fun _ st' => Fg Q (.d .none) st', rt := Fg Q } (startD 4 xs) st) : Cl P w K mg base "cut" 1 sp :=
  ⟨f, fd, ["a", "b"], hm, Fu.kp, fn_ok Fu S_cut len (d_cut T ) sem, Fu.binds fun _ _ _ _ _ _ us hl => match us, hl with | [_, _], _ => rfl⟩
abbrev s_split_table : Stmt := top 23
abbrev N_split_table : List Str := ["n", "generators", "last", "left", "table", "rest", "one", "number", "multiple"]
theorem S_split_table : FnScope N_split_table ["n", "generators"] (defScope s_split_table) := ⟨rfl, rfl, rfl, by decide +kernel, rfl, by decide +kernel, by decide +kernel⟩
theorem v_split_table_0 : visB N_split_table (defScope s_split_table) 0 "n" = true := by decide +kernel
theorem v_split_table_1 : visB N_split_table (defScope s_split_table) 1 "generators" = true := by decide +kernel
theorem v_split_table_2 : visB N_split_table (defScope s_split_table) 2 "last" = true := by decide +kernel
theorem l_split_table_2 : locB N_split_table (defScope s_split_table) (defScope s_split_table) 2 "last" = true := by decide +kernel
theorem v_split_table_3 : visB N_split_table (defScope s_split_table) 3 "left" = true := by decide +kernel
theorem l_split_table_3 : locB N_split_table (defScope s_split_table) (defScope s_split_table) 3 "left" = true := by decide +kernel
theorem v_split_table_4 : visB N_split_table (defScope s_split_table) 4 "table" = true := by decide +kernel
theorem l_split_table_4 : locB N_split_table (defScope s_split_table) (defScope s_split_table) 4 "table" = true := by decide +kernel
theorem v_split_table_5 : visB N_split_table (defScope s_split_table) 5 "rest" = true := by decide +kernel
theorem l_split_table_5 : locB N_split_table (defScope s_split_table) (defScope s_split_table) 5 "rest" = true := by decide +kernel
theorem v_split_table_6 : visB N_split_table (defScope s_split_table) 6 "one" = true := by decide +kernel
theorem l_split_table_6 : locB N_split_table (defScope s_split_table) (defScope s_split_table) 6 "one" = true := by decide +kernel
theorem v_split_table_7 : visB N_split_table (defScope s_split_table) 7 "number" = true := by decide +kernel
theorem l_split_table_7 : locB N_split_table (defScope s_split_table) (defScope s_split_table) 7 "number" = true := by decide +kernel
theorem v_split_table_8 : visB N_split_table (defScope s_split_table) 8 "multiple" = true := by decide +kernel
theorem l_split_table_8 : locB N_split_table (defScope s_split_table) (defScope s_split_table) 8 "multiple" = true := by decide +kernel
theorem g_split_table_split_table : glB (defScope s_split_table) "split_table" = true := by decide +kernel
theorem g_split_table_least_ones : glB (defScope s_split_table) "least_ones" = true := by decide +kernel
theorem g_split_table_tuple : glB (defScope s_split_table) "tuple" = true := by decide +kernel
theorem g_split_table_times : glB (defScope s_split_table) "times" = true := by decide +kernel
set_option maxHeartbeats 4000000 in
theorem d_split_table {j : Nat} {sp_split_table : SpD} {sp_cut : SpD} {sp_least_ones : SpD} {sp_times : SpD} (T : Tx mg) (C_split_table : Cl P w K mg base "split_table" (j + 2) sp_split_table) (C_cut : Cl P w K mg base "cut" 1 sp_cut) (C_least_ones : Cl P w K mg base "least_ones" 2 sp_least_ones) (C_times : Cl P w K mg base "times" 1 sp_times) : ∀ X, Cok P w K mg base X N_split_table (defScope s_split_table) (defScope s_split_table) (j + 2) → DSs X (defBody s_split_table) (rd_split_table sp_split_table sp_cut sp_least_ones sp_times) := fun X c =>
  (ds_cons (ds_if (dt_cp (op_qEq c.hu64) rfl (de_var c v_split_table_1) (de_tup da_nil)) (ds_one (ds_ret (de_dispT c (de_bin (op_qMul false) (de_tup (da_cons de_int da_nil)) (de_var c v_split_table_0)) de_int))) ds_nil)
  (ds_cons (ds_asg c (de_tup (da_cons (de_ix (de_var c v_split_table_1) (de_neg de_int) (fun _ _ => rfl)) (da_cons (de_sl false (de_var c v_split_table_1) do_none (do_some (de_neg de_int))) da_nil))) (dg_tup c (dgs_cons (dg_name c l_split_table_2) (dgs_cons (dg_name c l_split_table_3) dgs_nil))) rfl (by kernel_rfl))
  (ds_cons (ds_asg c (de_callC c g_split_table_split_table C_split_table (by first | omega | decide) (da_cons (de_var c v_split_table_0) (da_cons (de_var c v_split_table_3) da_nil))) (dg_name c l_split_table_4) rfl rfl)
  (ds_cons (ds_asg c (de_ct c g_split_table_tuple T.b_tuple bt_tuple c_tuple (da_cons (de_callC c g_split_table_least_ones C_least_ones (by first | omega | decide) (da_cons (de_lc false [("one", 6)] c (by decide +kernel) (by first | omega | decide) (di_seq (de_var c v_split_table_3)) (fun _ c1 => (dg_name c1 (by decide +kernel))) (fun _ c1 => dts_nil) (fun _ c1 => (de_callC c1 (by decide +kernel) C_cut (by first | omega | decide) (da_cons (de_var c1 (by decide +kernel)) (da_cons (de_var c1 (by decide +kernel)) da_nil))))) da_nil)) da_nil)) (dg_name c l_split_table_5) rfl rfl)
  (ds_cons (ds_for c (di_items (de_frz (de_callC c g_split_table_split_table C_split_table (by first | omega | decide) (da_cons (de_var c v_split_table_0) (da_cons (de_var c v_split_table_5) da_nil))))) (dg_tup c (dgs_cons (dg_name c l_split_table_6) (dgs_cons (dg_name c l_split_table_7) dgs_nil))) (ds_cons (ds_asg c (de_callC c g_split_table_times C_times (by first | omega | decide) (da_cons (de_var c v_split_table_6) (da_cons (de_var c v_split_table_2) da_nil))) (dg_name c l_split_table_8) rfl rfl)
      (ds_one (ds_dput c (de_var c v_split_table_4) (de_var c v_split_table_8) (de_bin op_qSub (de_get c (de_var c v_split_table_4) (de_var c v_split_table_8) de_int) (de_var c v_split_table_7)) rfl))))
  (ds_one (ds_ret (de_var c v_split_table_4))))))))
theorem o_split_table {j : Nat} {sp_split_table : SpD} {sp_cut : SpD} {sp_least_ones : SpD} {sp_times : SpD} (T : Tx mg) (C_split_table : Cl P w K mg base "split_table" (j + 2) sp_split_table) (C_cut : Cl P w K mg base "cut" 1 sp_cut) (C_least_ones : Cl P w K mg base "least_ones" 2 sp_least_ones) (C_times : Cl P w K mg base "times" 1 sp_times) {f : Addr} {fd : FuncData} {sp : SpD} (Fu : Fun K "split_table" "split_table" s_split_table f fd) (hm : mg "split_table" = some (.ref f)) (len : ∀ xs st Q, sp xs st Q → xs.length = 2) (sem : ∀ xs st Q, sp xs st Q → rd_split_table sp_split_table sp_cut sp_least_ones sp_times { nx := fun _ st' => Fg Q (.d .none) st', rt := Fg Q } (startD 9 xs) st) : Cl P w K mg base "split_table" (j + 2 + 1) sp :=
  ⟨f, fd, ["n", "generators"], hm, Fu.kp, fn_ok Fu S_split_table len (d_split_table T C_split_table C_cut C_least_ones C_times) sem, Fu.binds fun _ _ _ _ _ _ us hl => match us, hl with | [_, _], _ => rfl⟩
theorem rec_split_table {sp_cut : SpD} {sp_least_ones : SpD} {sp_times : SpD} (T : Tx mg) (C_cut : Cl P w K mg base "cut" 1 sp_cut) (C_least_ones : Cl P w K mg base "least_ones" 2 sp_least_ones) (C_times : Cl P w K mg base "times" 1 sp_times) {f : Addr} {fd : FuncData} {sp : Nat → SpD} (Fu : Fun K "split_table" "split_table" s_split_table f fd) (hm : mg "split_table" = some (.ref f)) (zero : ∀ xs st Q, ¬ sp 0 xs st Q) (len : ∀ r xs st Q, sp r xs st Q → xs.length = 2) (sem : ∀ r xs st Q, sp (r + 1) xs st Q → rd_split_table (sp r) sp_cut sp_least_ones sp_times { nx := fun _ st' => Fg Q (.d .none) st', rt := Fg Q } (startD 9 xs) st) : ∀ r, Cl P w K mg base "split_table" (r + 2) (sp r)
  | 0 => ⟨f, fd, ["n", "generators"], hm, Fu.kp, fn_ok (k := 1) Fu S_split_table (len 0) (fun X c => dss_never) fun xs st Q h => (zero xs st Q h).elim, Fu.binds fun _ _ _ _ _ _ us hl => match us, hl with | [_, _], _ => rfl⟩
  | r + 1 => by
    have h := o_split_table T (rec_split_table T C_cut C_least_ones C_times Fu hm zero len sem r) C_cut C_least_ones C_times Fu hm (len (r + 1)) (sem r)
    rwa [show r + 2 + 1 = r + 1 + 2 by omega] at h
abbrev s_numerator_by_splitting : Stmt := top 24
abbrev N_numerator_by_splitting : List Str := ["ideal"]
theorem S_numerator_by_splitting : FnScope N_numerator_by_splitting ["ideal"] (defScope s_numerator_by_splitting) := ⟨rfl, rfl, rfl, by decide +kernel, rfl, by decide +kernel, by decide +kernel⟩
theorem v_numerator_by_splitting_0 : visB N_numerator_by_splitting (defScope s_numerator_by_splitting) 0 "ideal" = true := by decide +kernel
theorem g_numerator_by_splitting_want_small : glB (defScope s_numerator_by_splitting) "want_small" = true := by decide +kernel
theorem g_numerator_by_splitting_split_table : glB (defScope s_numerator_by_splitting) "split_table" = true := by decide +kernel
theorem g_numerator_by_splitting_as_pairs : glB (defScope s_numerator_by_splitting) "as_pairs" = true := by decide +kernel
set_option maxHeartbeats 4000000 in
theorem d_numerator_by_splitting {sp_want_small : SpD} {sp_split_table : SpD} {sp_as_pairs : SpD} (T : Tx mg) (C_want_small : Cl P w K mg base "want_small" 1 sp_want_small) (C_split_table : Cl P w K mg base "split_table" 13 sp_split_table) (C_as_pairs : Cl P w K mg base "as_pairs" 1 sp_as_pairs) : ∀ X, Cok P w K mg base X N_numerator_by_splitting (defScope s_numerator_by_splitting) (defScope s_numerator_by_splitting) 13 → DSs X (defBody s_numerator_by_splitting) (rd_numerator_by_splitting sp_want_small sp_split_table sp_as_pairs) := fun X c =>
  (ds_cons (ds_expr (de_callC c g_numerator_by_splitting_want_small C_want_small (by decide) (da_cons (de_var c v_numerator_by_splitting_0) da_nil)))
  (ds_one (ds_ret (de_callC c g_numerator_by_splitting_as_pairs C_as_pairs (by decide) (da_cons (de_callC c g_numerator_by_splitting_split_table C_split_table (by decide) (da_cons (de_ix (de_var c v_numerator_by_splitting_0) de_int (fun _ _ => rfl)) (da_cons (de_ix (de_var c v_numerator_by_splitting_0) de_int (fun _ _ => rfl)) da_nil))) da_nil)))))
theorem o_numerator_by_splitting {sp_want_small : SpD} {sp_split_table : SpD} {sp_as_pairs : SpD} (T : Tx mg) (C_want_small : Cl P w K mg base "want_small" 1 sp_want_small) (C_split_table : Cl P w K mg base "split_table" 13 sp_split_table) (C_as_pairs : Cl P w K mg base "as_pairs" 1 sp_as_pairs) {f : Addr} {fd : FuncData} {sp : SpD} (Fu : Fun K "numerator_by_splitting" "numerator_by_splitting" s_numerator_by_splitting f fd) (hm : mg "numerator_by_splitting" = some (.ref f)) (len : ∀ xs st Q, sp xs st Q → xs.length = 1) (sem : ∀ xs st Q, sp xs st Q → rd_numerator_by_splitting sp_want_small sp_split_table sp_as_pairs { nx := fun _ st' => Fg Q (.d .none) st', rt := Fg Q } (startD 1 xs) st) : Cl P w K mg base "numerator_by_splitting" 14 sp :=
  ⟨f, fd, ["ideal"], hm, Fu.kp, fn_ok Fu S_numerator_by_splitting len (d_numerator_by_splitting T C_want_small C_split_table C_as_pairs) sem, Fu.binds fun _ _ _ _ _ _ us hl => match us, hl with | [_], _ => rfl⟩
abbrev s_law_box : Stmt := top 43
abbrev N_law_box : List Str := ["tops", "found", "top", "wider", "a", "k"]
theorem S_law_box : FnScope N_law_box ["tops"] (defScope s_law_box) := ⟨rfl, rfl, rfl, by decide +kernel, rfl, by decide +kernel, by decide +kernel⟩
theorem v_law_box_0 : visB N_law_box (defScope s_law_box) 0 "tops" = true := by decide +kernel
theorem v_law_box_1 : visB N_law_box (defScope s_law_box) 1 "found" = true := by decide +kernel
theorem l_law_box_1 : locB N_law_box (defScope s_law_box) (defScope s_law_box) 1 "found" = true := by decide +kernel
theorem v_law_box_2 : visB N_law_box (defScope s_law_box) 2 "top" = true := by decide +kernel
theorem l_law_box_2 : locB N_law_box (defScope s_law_box) (defScope s_law_box) 2 "top" = true := by decide +kernel
theorem v_law_box_3 : visB N_law_box (defScope s_law_box) 3 "wider" = true := by decide +kernel
theorem l_law_box_3 : locB N_law_box (defScope s_law_box) (defScope s_law_box) 3 "wider" = true := by decide +kernel
theorem l_law_box_4 : locB N_law_box (defScope s_law_box) (defScope s_law_box) 4 "a" = true := by decide +kernel
theorem g_law_box_range : glB (defScope s_law_box) "range" = true := by decide +kernel
set_option maxHeartbeats 4000000 in
theorem d_law_box  (T : Tx mg)  : ∀ X, Cok P w K mg base X N_law_box (defScope s_law_box) (defScope s_law_box) 0 → DSs X (defBody s_law_box) (rd_law_box) := fun X c =>
  (ds_cons (ds_asg c (de_lst false (da_cons (de_tup da_nil) da_nil)) (dg_name c l_law_box_1) rfl rfl)
  (ds_cons (ds_for c (di_seq (de_var c v_law_box_0)) (dg_name c l_law_box_2) (ds_cons (ds_asg c (de_lst true da_nil) (dg_name c l_law_box_3) rfl rfl)
      (ds_cons (ds_for c (di_seq (de_var c v_law_box_1)) (dg_name c l_law_box_4) (ds_one (ds_expr (de_extend (de_var c v_law_box_3) (de_lc false [("k", 5)] c (by decide +kernel) (by decide) (di_rng1 c g_law_box_range T.b_range (da_cons (de_bin (op_qAdd false) (de_var c v_law_box_2) de_int) da_nil)) (fun _ c1 => (dg_name c1 (by decide +kernel))) (fun _ c1 => dts_nil) (fun _ c1 => (de_bin (op_qAdd false) (de_var c1 (by decide +kernel)) (de_tup (da_cons (de_var c1 (by decide +kernel)) da_nil)))))))))
      (ds_one (ds_asg c (de_var c v_law_box_3) (dg_name c l_law_box_1) rfl rfl)))))
  (ds_one (ds_ret (de_var c v_law_box_1)))))
theorem o_law_box  (T : Tx mg)  {f : Addr} {fd : FuncData} {sp : SpD} (Fu : Fun K "_law_box" "_law_box" s_law_box f fd) (hm : mg "_law_box" = some (.ref f)) (len : ∀ xs st Q, sp xs st Q → xs.length = 1) (sem : ∀ xs st Q, sp xs st Q → rd_law_box { nx := fun _ st' => Fg Q (.d .none) st', rt := Fg Q } (startD 6 xs) st) : Cl P w K mg base "_law_box" 1 sp :=
  ⟨f, fd, ["tops"], hm, Fu.kp, fn_ok Fu S_law_box len (d_law_box T ) sem, Fu.binds fun _ _ _ _ _ _ us hl => match us, hl with | [_], _ => rfl⟩
abbrev s_law_in : Stmt := top 40
abbrev N_law_in : List Str := ["generators", "b", "a"]
theorem S_law_in : FnScope N_law_in ["generators", "b"] (defScope s_law_in) := ⟨rfl, rfl, rfl, by decide +kernel, rfl, by decide +kernel, by decide +kernel⟩
theorem v_law_in_0 : visB N_law_in (defScope s_law_in) 0 "generators" = true := by decide +kernel
set_option maxHeartbeats 4000000 in
theorem d_law_in {sp_law_divides : SpD} (T : Tx mg) (C_law_divides : Cl P w K mg base "_law_divides" 1 sp_law_divides) : ∀ X, Cok P w K mg base X N_law_in (defScope s_law_in) (defScope s_law_in) 1 → DSs X (defBody s_law_in) (rd_law_in sp_law_divides) := fun X c =>
  (ds_one (ds_ret (de_cp (op_qNe c.hu64) rfl (de_lc false [("a", 2)] c (by decide +kernel) (by decide) (di_seq (de_var c v_law_in_0)) (fun _ c1 => (dg_name c1 (by decide +kernel))) (fun _ c1 => (dts_one (dt_val (de_callC c1 (by decide +kernel) C_law_divides (by decide) (da_cons (de_var c1 (by decide +kernel)) (da_cons (de_var c1 (by decide +kernel)) da_nil)))))) (fun _ c1 => (de_var c1 (by decide +kernel)))) (de_lst false da_nil))))
theorem o_law_in {sp_law_divides : SpD} (T : Tx mg) (C_law_divides : Cl P w K mg base "_law_divides" 1 sp_law_divides) {f : Addr} {fd : FuncData} {sp : SpD} (Fu : Fun K "_law_in" "_law_in" s_law_in f fd) (hm : mg "_law_in" = some (.ref f)) (len : ∀ xs st Q, sp xs st Q → xs.length = 2) (sem : ∀ xs st Q, sp xs st Q → rd_law_in sp_law_divides { nx := fun _ st' => Fg Q (.d .none) st', rt := Fg Q } (startD 3 xs) st) : Cl P w K mg base "_law_in" 2 sp :=
  ⟨f, fd, ["generators", "b"], hm, Fu.kp, fn_ok Fu S_law_in len (d_law_in T C_law_divides) sem, Fu.binds fun _ _ _ _ _ _ us hl => match us, hl with | [_, _], _ => rfl⟩
abbrev s_law_count : Stmt := top 46
abbrev N_law_count : List Str := ["n", "rows", "degree", "found", "a"]
theorem S_law_count : FnScope N_law_count ["n", "rows", "degree"] (defScope s_law_count) := ⟨rfl, rfl, rfl, by decide +kernel, rfl, by decide +kernel, by decide +kernel⟩
theorem v_law_count_0 : visB N_law_count (defScope s_law_count) 0 "n" = true := by decide +kernel
theorem v_law_count_2 : visB N_law_count (defScope s_law_count) 2 "degree" = true := by decide +kernel
theorem v_law_count_3 : visB N_law_count (defScope s_law_count) 3 "found" = true := by decide +kernel
theorem g_law_count_law_box : glB (defScope s_law_count) "_law_box" = true := by decide +kernel
theorem g_law_count_len : glB (defScope s_law_count) "len" = true := by decide +kernel
set_option maxHeartbeats 4000000 in
theorem d_law_count {sp_law_box : SpD} {sp_law_in : SpD} (T : Tx mg) (C_law_box : Cl P w K mg base "_law_box" 1 sp_law_box) (C_law_in : Cl P w K mg base "_law_in" 2 sp_law_in) : ∀ X, Cok P w K mg base X N_law_count (defScope s_law_count) (defScope s_law_count) 2 → DSs X (defBody s_law_count) (rd_law_count sp_law_box sp_law_in) := fun X c =>
  (ds_cons (ds_setLc (i := 3) false [("a", 4)] c (by decide +kernel) (by kernel_rfl) (by decide +kernel) (by decide) (di_seq (de_callC c g_law_count_law_box C_law_box (by decide) (da_cons (de_bin (op_qMul false) (de_tup (da_cons (de_var c v_law_count_2) da_nil)) (de_var c v_law_count_0)) da_nil))) (fun _ c1 => (dg_name c1 (by decide +kernel))) (fun _ c1 => (dts_one (DW.pt (dw_and (dt_cp (op_qEq c1.hu64) rfl (de_cb c1 (by decide +kernel) T.b_sum bb_sum (c_sum c1.calm) (da_cons (de_var c1 (by decide +kernel)) da_nil)) (de_var c1 (by decide +kernel))) (dw_and1 (dt_not (dt_val (de_callC c1 (by decide +kernel) C_law_in (by decide) (da_cons (de_var c1 (by decide +kernel)) (da_cons (de_var c1 (by decide +kernel)) da_nil)))))))))) (fun _ c1 => (de_var c1 (by decide +kernel))))
  (ds_one (ds_ret (de_cb c g_law_count_len T.b_len bb_len c_len (da_cons (de_var c v_law_count_3) da_nil)))))
theorem o_law_count {sp_law_box : SpD} {sp_law_in : SpD} (T : Tx mg) (C_law_box : Cl P w K mg base "_law_box" 1 sp_law_box) (C_law_in : Cl P w K mg base "_law_in" 2 sp_law_in) {f : Addr} {fd : FuncData} {sp : SpD} (Fu : Fun K "_law_count" "_law_count" s_law_count f fd) (hm : mg "_law_count" = some (.ref f)) (len : ∀ xs st Q, sp xs st Q → xs.length = 3) (sem : ∀ xs st Q, sp xs st Q → rd_law_count sp_law_box sp_law_in { nx := fun _ st' => Fg Q (.d .none) st', rt := Fg Q } (startD 5 xs) st) : Cl P w K mg base "_law_count" 3 sp :=
  ⟨f, fd, ["n", "rows", "degree"], hm, Fu.kp, fn_ok Fu S_law_count len (d_law_count T C_law_box C_law_in) sem, Fu.binds fun _ _ _ _ _ _ us hl => match us, hl with | [_, _, _], _ => rfl⟩
abbrev s_colon_by : Stmt := top 33
abbrev N_colon_by : List Str := ["ideal", "monomial", "generator"]
theorem S_colon_by : FnScope N_colon_by ["ideal", "monomial"] (defScope s_colon_by) := ⟨rfl, rfl, rfl, by decide +kernel, rfl, by decide +kernel, by decide +kernel⟩
theorem v_colon_by_0 : visB N_colon_by (defScope s_colon_by) 0 "ideal" = true := by decide +kernel
theorem g_colon_by_made : glB (defScope s_colon_by) "made" = true := by decide +kernel
set_option maxHeartbeats 4000000 in
theorem d_colon_by {sp_cut : SpD} {sp_made : SpD} (T : Tx mg) (C_cut : Cl P w K mg base "cut" 1 sp_cut) (C_made : Cl P w K mg base "made" 3 sp_made) : ∀ X, Cok P w K mg base X N_colon_by (defScope s_colon_by) (defScope s_colon_by) 3 → DSs X (defBody s_colon_by) (rd_colon_by sp_cut sp_made) := fun X c =>
  (ds_one (ds_ret (de_callC c g_colon_by_made C_made (by decide) (da_cons (de_ix (de_var c v_colon_by_0) de_int (fun _ _ => rfl)) (da_cons (de_lc false [("generator", 2)] c (by decide +kernel) (by decide) (di_seq (de_ix (de_var c v_colon_by_0) de_int (fun _ _ => rfl))) (fun _ c1 => (dg_name c1 (by decide +kernel))) (fun _ c1 => dts_nil) (fun _ c1 => (de_callC c1 (by decide +kernel) C_cut (by decide) (da_cons (de_var c1 (by decide +kernel)) (da_cons (de_var c1 (by decide +kernel)) da_nil))))) da_nil)))))
theorem o_colon_by {sp_cut : SpD} {sp_made : SpD} (T : Tx mg) (C_cut : Cl P w K mg base "cut" 1 sp_cut) (C_made : Cl P w K mg base "made" 3 sp_made) {f : Addr} {fd : FuncData} {sp : SpD} (Fu : Fun K "colon_by" "colon_by" s_colon_by f fd) (hm : mg "colon_by" = some (.ref f)) (len : ∀ xs st Q, sp xs st Q → xs.length = 2) (sem : ∀ xs st Q, sp xs st Q → rd_colon_by sp_cut sp_made { nx := fun _ st' => Fg Q (.d .none) st', rt := Fg Q } (startD 3 xs) st) : Cl P w K mg base "colon_by" 4 sp :=
  ⟨f, fd, ["ideal", "monomial"], hm, Fu.kp, fn_ok Fu S_colon_by len (d_colon_by T C_cut C_made) sem, Fu.binds fun _ _ _ _ _ _ us hl => match us, hl with | [_, _], _ => rfl⟩
abbrev s_is_whole : Stmt := top 19
abbrev N_is_whole : List Str := ["ideal"]
theorem S_is_whole : FnScope N_is_whole ["ideal"] (defScope s_is_whole) := ⟨rfl, rfl, rfl, by decide +kernel, rfl, by decide +kernel, by decide +kernel⟩
theorem v_is_whole_0 : visB N_is_whole (defScope s_is_whole) 0 "ideal" = true := by decide +kernel
set_option maxHeartbeats 4000000 in
theorem d_is_whole  (T : Tx mg)  : ∀ X, Cok P w K mg base X N_is_whole (defScope s_is_whole) (defScope s_is_whole) 0 → DSs X (defBody s_is_whole) (rd_is_whole) := fun X c =>
  (ds_one (ds_ret (de_cp (op_qEq c.hu64) rfl (de_ix (de_var c v_is_whole_0) de_int (fun _ _ => rfl)) (de_tup (da_cons (de_bin (op_qMul false) (de_tup (da_cons de_int da_nil)) (de_ix (de_var c v_is_whole_0) de_int (fun _ _ => rfl))) da_nil)))))
theorem o_is_whole  (T : Tx mg)  {f : Addr} {fd : FuncData} {sp : SpD} (Fu : Fun K "is_whole" "is_whole" s_is_whole f fd) (hm : mg "is_whole" = some (.ref f)) (len : ∀ xs st Q, sp xs st Q → xs.length = 1) (sem : ∀ xs st Q, sp xs st Q → rd_is_whole { nx := fun _ st' => Fg Q (.d .none) st', rt := Fg Q } (startD 1 xs) st) : Cl P w K mg base "is_whole" 1 sp :=
  ⟨f, fd, ["ideal"], hm, Fu.kp, fn_ok Fu S_is_whole len (d_is_whole T ) sem, Fu.binds fun _ _ _ _ _ _ us hl => match us, hl with | [_], _ => rfl⟩
abbrev s_multiples : Stmt := top 25
abbrev N_multiples : List Str := ["n", "generators", "found", "generator", "one"]
theorem S_multiples : FnScope N_multiples ["n", "generators"] (defScope s_multiples) := ⟨rfl, rfl, rfl, by decide +kernel, rfl, by decide +kernel, by decide +kernel⟩
theorem v_multiples_0 : visB N_multiples (defScope s_multiples) 0 "n" = true := by decide +kernel
theorem v_multiples_1 : visB N_multiples (defScope s_multiples) 1 "generators" = true := by decide +kernel
theorem v_multiples_2 : visB N_multiples (defScope s_multiples) 2 "found" = true := by decide +kernel
theorem l_multiples_2 : locB N_multiples (defScope s_multiples) (defScope s_multiples) 2 "found" = true := by decide +kernel
theorem v_multiples_3 : visB N_multiples (defScope s_multiples) 3 "generator" = true := by decide +kernel
theorem l_multiples_3 : locB N_multiples (defScope s_multiples) (defScope s_multiples) 3 "generator" = true := by decide +kernel
theorem v_multiples_4 : visB N_multiples (defScope s_multiples) 4 "one" = true := by decide +kernel
theorem l_multiples_4 : locB N_multiples (defScope s_multiples) (defScope s_multiples) 4 "one" = true := by decide +kernel
theorem g_multiples_list : glB (defScope s_multiples) "list" = true := by decide +kernel
theorem g_multiples_lcm_of : glB (defScope s_multiples) "lcm_of" = true := by decide +kernel
theorem g_multiples_sorted : glB (defScope s_multiples) "sorted" = true := by decide +kernel
theorem g_multiples_sum : glB (defScope s_multiples) "sum" = true := by decide +kernel
set_option maxHeartbeats 4000000 in
theorem d_multiples {sp_lcm_of : SpD} (T : Tx mg) (C_lcm_of : Cl P w K mg base "lcm_of" 1 sp_lcm_of) : ∀ X, Cok P w K mg base X N_multiples (defScope s_multiples) (defScope s_multiples) 1 → DSs X (defBody s_multiples) (rd_multiples sp_lcm_of) := fun X c =>
  (ds_cons (ds_asg c (de_dispT c (de_bin (op_qMul false) (de_tup (da_cons de_int da_nil)) (de_var c v_multiples_0)) de_bl) (dg_name c l_multiples_2) rfl rfl)
  (ds_cons (ds_for c (di_seq (de_var c v_multiples_1)) (dg_name c l_multiples_3) (ds_one (ds_for c (di_seq (de_ct c g_multiples_list T.b_list bt_list (c_listDT false c.calm) (da_cons (de_var c v_multiples_2) da_nil))) (dg_name c l_multiples_4) (ds_one (ds_dput c (de_var c v_multiples_2) (de_callC c g_multiples_lcm_of C_lcm_of (by decide) (da_cons (de_var c v_multiples_4) (da_cons (de_var c v_multiples_3) da_nil))) de_bl rfl)))))
  (ds_one (ds_ret (de_sortS false c g_multiples_sorted T.b_sorted g_multiples_sum T.b_sum (de_sortD false c g_multiples_sorted T.b_sorted (de_ct c g_multiples_list T.b_list bt_list (c_listDT false c.calm) (da_cons (de_var c v_multiples_2) da_nil))))))))
theorem o_multiples {sp_lcm_of : SpD} (T : Tx mg) (C_lcm_of : Cl P w K mg base "lcm_of" 1 sp_lcm_of) {f : Addr} {fd : FuncData} {sp : SpD} (Fu : Fun K "multiples" "multiples" s_multiples f fd) (hm : mg "multiples" = some (.ref f)) (len : ∀ xs st Q, sp xs st Q → xs.length = 2) (sem : ∀ xs st Q, sp xs st Q → rd_multiples sp_lcm_of { nx := fun _ st' => Fg Q (.d .none) st', rt := Fg Q } (startD 5 xs) st) : Cl P w K mg base "multiples" 2 sp :=
  ⟨f, fd, ["n", "generators"], hm, Fu.kp, fn_ok Fu S_multiples len (d_multiples T C_lcm_of) sem, Fu.binds fun _ _ _ _ _ _ us hl => match us, hl with | [_, _], _ => rfl⟩
abbrev s_signs : Stmt := top 26
abbrev N_signs : List Str := ["ideal", "n", "generators", "table", "one", "below", "other", "number"]
theorem S_signs : FnScope N_signs ["ideal"] (defScope s_signs) := ⟨rfl, rfl, rfl, by decide +kernel, rfl, by decide +kernel, by decide +kernel⟩
theorem v_signs_0 : visB N_signs (defScope s_signs) 0 "ideal" = true := by decide +kernel
theorem v_signs_1 : visB N_signs (defScope s_signs) 1 "n" = true := by decide +kernel
theorem l_signs_1 : locB N_signs (defScope s_signs) (defScope s_signs) 1 "n" = true := by decide +kernel
theorem v_signs_2 : visB N_signs (defScope s_signs) 2 "generators" = true := by decide +kernel
theorem l_signs_2 : locB N_signs (defScope s_signs) (defScope s_signs) 2 "generators" = true := by decide +kernel
theorem v_signs_3 : visB N_signs (defScope s_signs) 3 "table" = true := by decide +kernel
theorem l_signs_3 : locB N_signs (defScope s_signs) (defScope s_signs) 3 "table" = true := by decide +kernel
theorem v_signs_4 : visB N_signs (defScope s_signs) 4 "one" = true := by decide +kernel
theorem l_signs_4 : locB N_signs (defScope s_signs) (defScope s_signs) 4 "one" = true := by decide +kernel
theorem v_signs_5 : visB N_signs (defScope s_signs) 5 "below" = true := by decide +kernel
theorem g_signs_want_small : glB (defScope s_signs) "want_small" = true := by decide +kernel
theorem g_signs_is_whole : glB (defScope s_signs) "is_whole" = true := by decide +kernel
theorem g_signs_multiples : glB (defScope s_signs) "multiples" = true := by decide +kernel
theorem g_signs_sum : glB (defScope s_signs) "sum" = true := by decide +kernel
theorem g_signs_sorted : glB (defScope s_signs) "sorted" = true := by decide +kernel
theorem g_signs_tuple : glB (defScope s_signs) "tuple" = true := by decide +kernel
set_option maxHeartbeats 4000000 in
theorem d_signs {sp_want_small : SpD} {sp_is_whole : SpD} {sp_multiples : SpD} {sp_divides : SpD} (T : Tx mg) (C_want_small : Cl P w K mg base "want_small" 1 sp_want_small) (C_is_whole : Cl P w K mg base "is_whole" 1 sp_is_whole) (C_multiples : Cl P w K mg base "multiples" 2 sp_multiples) (C_divides : Cl P w K mg base "divides" 1 sp_divides) : ∀ X, Cok P w K mg base X N_signs (defScope s_signs) (defScope s_signs) 2 → DSs X (defBody s_signs) (rd_signs sp_want_small sp_is_whole sp_multiples sp_divides) := fun X c =>
  (ds_cons (ds_expr (de_callC c g_signs_want_small C_want_small (by decide) (da_cons (de_var c v_signs_0) da_nil)))
  (ds_cons (ds_asg c (de_var c v_signs_0) (dg_tup c (dgs_cons (dg_name c l_signs_1) (dgs_cons (dg_name c l_signs_2) dgs_nil))) rfl rfl)
  (ds_cons (ds_if (dt_val (de_callC c g_signs_is_whole C_is_whole (by decide) (da_cons (de_var c v_signs_0) da_nil))) (ds_one (ds_ret (de_tup da_nil))) ds_nil)
  (ds_cons (ds_asg c (de_dnew true) (dg_name c l_signs_3) rfl rfl)
  (ds_cons (ds_for c (di_seq (de_callC c g_signs_multiples C_multiples (by decide) (da_cons (de_var c v_signs_1) (da_cons (de_var c v_signs_2) da_nil)))) (dg_name c l_signs_4) (ds_cons (ds_lock 3 (ds_setLc (i := 5) false [("other", 6), ("number", 7)] c (by decide +kernel) (by kernel_rfl) (by decide +kernel) (by decide) (di_items (de_var c v_signs_3)) (fun _ c1 => (dg_tup c1 (dgs_cons (dg_name c1 (by decide +kernel)) (dgs_cons (dg_name c1 (by decide +kernel)) dgs_nil)))) (fun _ c1 => (dts_one (dt_val (de_callC c1 (by decide +kernel) C_divides (by decide) (da_cons (de_var c1 (by decide +kernel)) (da_cons (de_var c1 (by decide +kernel)) da_nil)))))) (fun _ c1 => (de_var c1 (by decide +kernel)))))
      (ds_one (ds_dput c (de_var c v_signs_3) (de_var c v_signs_4) (de_if (dt_cp (op_qEmp c.hu64) rfl (de_var c v_signs_3) (de_dnew true)) de_int (de_neg (de_cb c g_signs_sum T.b_sum bb_sum (c_sum c.calm) (da_cons (de_var c v_signs_5) da_nil)))) rfl))))
  (ds_one (ds_ret (de_ct c g_signs_tuple T.b_tuple bt_tuple c_tuple (da_cons (de_sortIt false c g_signs_sorted T.b_sorted (de_var c v_signs_3)) da_nil)))))))))
theorem o_signs {sp_want_small : SpD} {sp_is_whole : SpD} {sp_multiples : SpD} {sp_divides : SpD} (T : Tx mg) (C_want_small : Cl P w K mg base "want_small" 1 sp_want_small) (C_is_whole : Cl P w K mg base "is_whole" 1 sp_is_whole) (C_multiples : Cl P w K mg base "multiples" 2 sp_multiples) (C_divides : Cl P w K mg base "divides" 1 sp_divides) {f : Addr} {fd : FuncData} {sp : SpD} (Fu : Fun K "signs" "signs" s_signs f fd) (hm : mg "signs" = some (.ref f)) (len : ∀ xs st Q, sp xs st Q → xs.length = 1) (sem : ∀ xs st Q, sp xs st Q → rd_signs sp_want_small sp_is_whole sp_multiples sp_divides { nx := fun _ st' => Fg Q (.d .none) st', rt := Fg Q } (startD 8 xs) st) : Cl P w K mg base "signs" 3 sp :=
  ⟨f, fd, ["ideal"], hm, Fu.kp, fn_ok Fu S_signs len (d_signs T C_want_small C_is_whole C_multiples C_divides) sem, Fu.binds fun _ _ _ _ _ _ us hl => match us, hl with | [_], _ => rfl⟩
abbrev s_law : Stmt := top 47
abbrev N_law : List Str := ["script", "k", "m", "n", "a", "b", "factor", "one", "whole", "wider", "ideal", "told", "degree", "counts", "pair"]
theorem S_law : FnScope N_law ["script"] (defScope s_law) := ⟨rfl, rfl, rfl, by decide +kernel, rfl, by decide +kernel, by decide +kernel⟩
theorem v_law_0 : visB N_law (defScope s_law) 0 "script" = true := by decide +kernel
theorem v_law_1 : visB N_law (defScope s_law) 1 "k" = true := by decide +kernel
theorem l_law_1 : locB N_law (defScope s_law) (defScope s_law) 1 "k" = true := by decide +kernel
theorem v_law_2 : visB N_law (defScope s_law) 2 "m" = true := by decide +kernel
theorem l_law_2 : locB N_law (defScope s_law) (defScope s_law) 2 "m" = true := by decide +kernel
theorem v_law_3 : visB N_law (defScope s_law) 3 "n" = true := by decide +kernel
theorem l_law_3 : locB N_law (defScope s_law) (defScope s_law) 3 "n" = true := by decide +kernel
theorem v_law_4 : visB N_law (defScope s_law) 4 "a" = true := by decide +kernel
theorem v_law_5 : visB N_law (defScope s_law) 5 "b" = true := by decide +kernel
theorem v_law_6 : visB N_law (defScope s_law) 6 "factor" = true := by decide +kernel
theorem v_law_7 : visB N_law (defScope s_law) 7 "one" = true := by decide +kernel
theorem l_law_7 : locB N_law (defScope s_law) (defScope s_law) 7 "one" = true := by decide +kernel
theorem v_law_8 : visB N_law (defScope s_law) 8 "whole" = true := by decide +kernel
theorem l_law_8 : locB N_law (defScope s_law) (defScope s_law) 8 "whole" = true := by decide +kernel
theorem v_law_9 : visB N_law (defScope s_law) 9 "wider" = true := by decide +kernel
theorem l_law_9 : locB N_law (defScope s_law) (defScope s_law) 9 "wider" = true := by decide +kernel
theorem v_law_10 : visB N_law (defScope s_law) 10 "ideal" = true := by decide +kernel
theorem l_law_10 : locB N_law (defScope s_law) (defScope s_law) 10 "ideal" = true := by decide +kernel
theorem v_law_11 : visB N_law (defScope s_law) 11 "told" = true := by decide +kernel
theorem l_law_11 : locB N_law (defScope s_law) (defScope s_law) 11 "told" = true := by decide +kernel
theorem v_law_12 : visB N_law (defScope s_law) 12 "degree" = true := by decide +kernel
theorem l_law_12 : locB N_law (defScope s_law) (defScope s_law) 12 "degree" = true := by decide +kernel
theorem v_law_13 : visB N_law (defScope s_law) 13 "counts" = true := by decide +kernel
theorem g_law_len : glB (defScope s_law) "len" = true := by decide +kernel
theorem g_law_min : glB (defScope s_law) "min" = true := by decide +kernel
theorem g_law_max : glB (defScope s_law) "max" = true := by decide +kernel
theorem g_law_range : glB (defScope s_law) "range" = true := by decide +kernel
theorem g_law_law_begun : glB (defScope s_law) "_law_begun" = true := by decide +kernel
theorem g_law_law_draw : glB (defScope s_law) "_law_draw" = true := by decide +kernel
theorem g_law_law_monomial : glB (defScope s_law) "_law_monomial" = true := by decide +kernel
theorem g_law_law_small : glB (defScope s_law) "_law_small" = true := by decide +kernel
theorem g_law_meet_of : glB (defScope s_law) "meet_of" = true := by decide +kernel
theorem g_law_numerator : glB (defScope s_law) "numerator" = true := by decide +kernel
theorem g_law_sum_of : glB (defScope s_law) "sum_of" = true := by decide +kernel
theorem g_law_law_added : glB (defScope s_law) "_law_added" = true := by decide +kernel
theorem g_law_list : glB (defScope s_law) "list" = true := by decide +kernel
theorem g_law_ideal_of : glB (defScope s_law) "ideal_of" = true := by decide +kernel
theorem g_law_colon_by : glB (defScope s_law) "colon_by" = true := by decide +kernel
theorem g_law_numerator_by_splitting : glB (defScope s_law) "numerator_by_splitting" = true := by decide +kernel
theorem g_law_signs : glB (defScope s_law) "signs" = true := by decide +kernel
theorem g_law_tuple : glB (defScope s_law) "tuple" = true := by decide +kernel
theorem g_law_law_count : glB (defScope s_law) "_law_count" = true := by decide +kernel
set_option maxHeartbeats 4000000 in
theorem d_law {sp_law_begun : SpD} {sp_law_draw : SpD} {sp_law_monomial : SpD} {sp_law_small : SpD} {sp_meet_of : SpD} {sp_numerator : SpD} {sp_sum_of : SpD} {sp_law_added : SpD} {sp_ideal_of : SpD} {sp_colon_by : SpD} {sp_numerator_by_splitting : SpD} {sp_signs : SpD} {sp_count_left : SpD} {sp_law_count : SpD} (T : Tx mg) (C_law_begun : Cl P w K mg base "_law_begun" 1 sp_law_begun) (C_law_draw : Cl P w K mg base "_law_draw" 1 sp_law_draw) (C_law_monomial : Cl P w K mg base "_law_monomial" 2 sp_law_monomial) (C_law_small : Cl P w K mg base "_law_small" 4 sp_law_small) (C_meet_of : Cl P w K mg base "meet_of" 4 sp_meet_of) (C_numerator : Cl P w K mg base "numerator" 2 sp_numerator) (C_sum_of : Cl P w K mg base "sum_of" 4 sp_sum_of) (C_law_added : Cl P w K mg base "_law_added" 2 sp_law_added) (C_ideal_of : Cl P w K mg base "ideal_of" 4 sp_ideal_of) (C_colon_by : Cl P w K mg base "colon_by" 4 sp_colon_by) (C_numerator_by_splitting : Cl P w K mg base "numerator_by_splitting" 14 sp_numerator_by_splitting) (C_signs : Cl P w K mg base "signs" 3 sp_signs) (C_count_left : Cl P w K mg base "count_left" 4 sp_count_left) (C_law_count : Cl P w K mg base "_law_count" 3 sp_law_count) : ∀ X, Cok P w K mg base X N_law (defScope s_law) (defScope s_law) 14 → DSs X (defBody s_law) (rd_law sp_law_begun sp_law_draw sp_law_monomial sp_law_small sp_meet_of sp_numerator sp_sum_of sp_law_added sp_ideal_of sp_colon_by sp_numerator_by_splitting sp_signs sp_count_left sp_law_count) := fun X c =>
  (ds_cons (ds_for c (di_rng1 c g_law_range T.b_range (da_cons (de_cb c g_law_max T.b_max bb_max (c_max2 c.calm) (da_cons de_int (da_cons (de_cb c g_law_min T.b_min bb_min (c_min2 c.calm) (da_cons (de_cb c g_law_len T.b_len bb_len c_len (da_cons (de_var c v_law_0) da_nil)) (da_cons de_int da_nil))) da_nil))) da_nil)) (dg_name c l_law_1) (ds_cons (ds_asg c (de_callC c g_law_law_begun C_law_begun (by decide) (da_cons (de_var c v_law_0) (da_cons (de_var c v_law_1) da_nil))) (dg_name c l_law_2) rfl rfl)
      (ds_cons (ds_asg c (de_bin (op_qAdd false) de_int (de_callC c g_law_law_draw C_law_draw (by decide) (da_cons (de_var c v_law_2) (da_cons de_int da_nil)))) (dg_name c l_law_3) rfl rfl)
      (ds_cons (ds_par3 (i := 4) (j := 5) (l := 6) c (by decide +kernel) (da_cons (de_callC c g_law_law_small C_law_small (by decide) (da_cons (de_var c v_law_2) (da_cons (de_var c v_law_3) (da_cons de_int (da_cons de_int da_nil))))) (da_cons (de_callC c g_law_law_small C_law_small (by decide) (da_cons (de_var c v_law_2) (da_cons (de_var c v_law_3) (da_cons de_int (da_cons de_int da_nil))))) (da_cons (de_callC c g_law_law_monomial C_law_monomial (by decide) (da_cons (de_var c v_law_2) (da_cons (de_var c v_law_3) (da_cons de_int da_nil)))) da_nil))) (by kernel_rfl))
      (ds_cons (ds_asg c (de_bin (op_qMul false) (de_tup (da_cons de_int da_nil)) (de_var c v_law_3)) (dg_name c l_law_7) rfl rfl)
      (ds_cons (ds_asg c (de_callC c g_law_law_added C_law_added (by decide) (da_cons (de_callC c g_law_numerator C_numerator (by decide) (da_cons (de_callC c g_law_sum_of C_sum_of (by decide) (da_cons (de_var c v_law_4) (da_cons (de_var c v_law_5) da_nil))) da_nil)) (da_cons (de_callC c g_law_numerator C_numerator (by decide) (da_cons (de_callC c g_law_meet_of C_meet_of (by decide) (da_cons (de_var c v_law_4) (da_cons (de_var c v_law_5) da_nil))) da_nil)) (da_cons (de_var c v_law_7) (da_cons de_int da_nil))))) (dg_name c l_law_8) rfl rfl)
      (ds_cons (ds_if (dt_cp (op_qNe c.hu64) rfl (de_var c v_law_8) (de_callC c g_law_law_added C_law_added (by decide) (da_cons (de_callC c g_law_numerator C_numerator (by decide) (da_cons (de_var c v_law_4) da_nil)) (da_cons (de_callC c g_law_numerator C_numerator (by decide) (da_cons (de_var c v_law_5) da_nil)) (da_cons (de_var c v_law_7) (da_cons de_int da_nil)))))) (ds_one (ds_ret de_bl)) ds_nil)
      (ds_cons (ds_asg c (de_callC c g_law_ideal_of C_ideal_of (by decide) (da_cons (de_var c v_law_3) (da_cons (de_bin (op_qAdd false) (de_ct c g_law_list T.b_list bt_list (c_list false) (da_cons (de_ix (de_var c v_law_4) de_int (fun _ _ => rfl)) da_nil)) (de_lst false (da_cons (de_var c v_law_6) da_nil))) da_nil))) (dg_name c l_law_9) rfl rfl)
      (ds_cons (ds_if (dt_cp (op_qNe c.hu64) rfl (de_callC c g_law_numerator C_numerator (by decide) (da_cons (de_var c v_law_9) da_nil)) (de_callC c g_law_law_added C_law_added (by decide) (da_cons (de_callC c g_law_numerator C_numerator (by decide) (da_cons (de_var c v_law_4) da_nil)) (da_cons (de_callC c g_law_numerator C_numerator (by decide) (da_cons (de_callC c g_law_colon_by C_colon_by (by decide) (da_cons (de_var c v_law_4) (da_cons (de_var c v_law_6) da_nil))) da_nil)) (da_cons (de_var c v_law_6) (da_cons (de_neg de_int) da_nil)))))) (ds_one (ds_ret de_bl)) ds_nil)
      (ds_cons (ds_for c (di_seq (de_lst false (da_cons (de_var c v_law_4) (da_cons (de_var c v_law_9) (da_cons (de_callC c g_law_meet_of C_meet_of (by decide) (da_cons (de_var c v_law_4) (da_cons (de_var c v_law_5) da_nil))) da_nil))))) (dg_name c l_law_10) (ds_cons (ds_asg c (de_callC c g_law_numerator C_numerator (by decide) (da_cons (de_var c v_law_10) da_nil)) (dg_name c l_law_11) rfl rfl)
          (ds_cons (ds_if (dt_cp (op_qNe c.hu64) rfl (de_callC c g_law_numerator_by_splitting C_numerator_by_splitting (by decide) (da_cons (de_var c v_law_10) da_nil)) (de_var c v_law_11)) (ds_one (ds_ret de_bl)) ds_nil)
          (ds_one (ds_if (dt_cp (op_qNe c.hu64) rfl (de_ct c g_law_tuple T.b_tuple bt_tuple c_tuple (da_cons (de_lc false [("pair", 14)] c (by decide +kernel) (by decide) (di_seq (de_callC c g_law_signs C_signs (by decide) (da_cons (de_var c v_law_10) da_nil))) (fun _ c1 => (dg_name c1 (by decide +kernel))) (fun _ c1 => (dts_one (dt_cp (op_qNe c1.hu64) rfl (de_ix (de_var c1 (by decide +kernel)) de_int (fun _ _ => rfl)) de_int))) (fun _ c1 => (de_var c1 (by decide +kernel)))) da_nil)) (de_var c v_law_11)) (ds_one (ds_ret de_bl)) ds_nil)))))
      (ds_cons (ds_asg c (de_callC c g_law_law_draw C_law_draw (by decide) (da_cons (de_var c v_law_2) (da_cons de_int da_nil))) (dg_name c l_law_12) rfl rfl)
      (ds_cons (ds_setLc (i := 13) false [("ideal", 10)] c (by decide +kernel) (by kernel_rfl) (by decide +kernel) (by decide) (di_seq (de_lst false (da_cons (de_var c v_law_4) (da_cons (de_var c v_law_5) (da_cons (de_callC c g_law_sum_of C_sum_of (by decide) (da_cons (de_var c v_law_4) (da_cons (de_var c v_law_5) da_nil))) (da_cons (de_callC c g_law_meet_of C_meet_of (by decide) (da_cons (de_var c v_law_4) (da_cons (de_var c v_law_5) da_nil))) da_nil)))))) (fun _ c1 => (dg_name c1 (by decide +kernel))) (fun _ c1 => dts_nil) (fun _ c1 => (de_callC c1 (by decide +kernel) C_count_left (by decide) (da_cons (de_var c1 (by decide +kernel)) (da_cons (de_var c1 (by decide +kernel)) da_nil)))))
      (ds_one (ds_if (DW.pt (dw_or (dt_cp (op_qNe c.hu64) rfl (de_bin (op_qAdd false) (de_ix (de_var c v_law_13) de_int (fun _ _ => rfl)) (de_ix (de_var c v_law_13) de_int (fun _ _ => rfl))) (de_bin (op_qAdd false) (de_ix (de_var c v_law_13) de_int (fun _ _ => rfl)) (de_ix (de_var c v_law_13) de_int (fun _ _ => rfl)))) (dw_or1 (dt_cp (op_qNe c.hu64) rfl (de_ix (de_var c v_law_13) de_int (fun _ _ => rfl)) (de_callC c g_law_law_count C_law_count (by decide) (da_cons (de_var c v_law_3) (da_cons (de_ix (de_var c v_law_4) de_int (fun _ _ => rfl)) (da_cons (de_var c v_law_12) da_nil)))))))) (ds_one (ds_ret de_bl)) ds_nil))))))))))))))
  (ds_one (ds_ret de_bl)))
end
open U UC
theorem all_mk {l : PySem.W.OpenLaw} {w : World} {K : PySem.W.Frag} {h : Heap} {mg : Str → Option Value} {fa : Addr} (X : K.In h) (G : h.Ns mainGlobals mg) (hfa : mg "law" = some (.ref fa))
    {f_law_begun : Addr} {od_law_begun an_law_begun : Option Addr} {sl_law_begun : Array (Option Value)} {oc_law_begun kV_law_begun dc_law_begun pm_law_begun cd_law_begun ct_law_begun : Value}
    (a_law_begun : PySem.W.nsIn K mainGlobals "_law_begun" = some (some (.ref f_law_begun))) (l_law_begun : K.lookup f_law_begun = some ⟨oc_law_begun, od_law_begun, .func (PySem.W.fnOf "_law_begun" "_law_begun" (defArgs s_law_begun) (defBody s_law_begun) (defScope s_law_begun) .none kV_law_begun dc_law_begun pm_law_begun an_law_begun cd_law_begun ct_law_begun), sl_law_begun⟩) (cc_law_begun : PySem.W.codeIn K cd_law_begun "_law_begun" = true) (k_law_begun : PySem.W.keepIn K (.ref f_law_begun) = true)
    {f_law_times : Addr} {od_law_times an_law_times : Option Addr} {sl_law_times : Array (Option Value)} {oc_law_times kV_law_times dc_law_times pm_law_times cd_law_times ct_law_times : Value}
    (a_law_times : PySem.W.nsIn K mainGlobals "_law_times" = some (some (.ref f_law_times))) (l_law_times : K.lookup f_law_times = some ⟨oc_law_times, od_law_times, .func (PySem.W.fnOf "_law_times" "_law_times" (defArgs s_law_times) (defBody s_law_times) (defScope s_law_times) .none kV_law_times dc_law_times pm_law_times an_law_times cd_law_times ct_law_times), sl_law_times⟩) (cc_law_times : PySem.W.codeIn K cd_law_times "_law_times" = true) (k_law_times : PySem.W.keepIn K (.ref f_law_times) = true)
    {f_law_added : Addr} {od_law_added an_law_added : Option Addr} {sl_law_added : Array (Option Value)} {oc_law_added kV_law_added dc_law_added pm_law_added cd_law_added ct_law_added : Value}
    (a_law_added : PySem.W.nsIn K mainGlobals "_law_added" = some (some (.ref f_law_added))) (l_law_added : K.lookup f_law_added = some ⟨oc_law_added, od_law_added, .func (PySem.W.fnOf "_law_added" "_law_added" (defArgs s_law_added) (defBody s_law_added) (defScope s_law_added) .none kV_law_added dc_law_added pm_law_added an_law_added cd_law_added ct_law_added), sl_law_added⟩) (cc_law_added : PySem.W.codeIn K cd_law_added "_law_added" = true) (k_law_added : PySem.W.keepIn K (.ref f_law_added) = true)
    {f_divides : Addr} {od_divides an_divides : Option Addr} {sl_divides : Array (Option Value)} {oc_divides kV_divides dc_divides pm_divides cd_divides ct_divides : Value}
    (a_divides : PySem.W.nsIn K mainGlobals "divides" = some (some (.ref f_divides))) (l_divides : K.lookup f_divides = some ⟨oc_divides, od_divides, .func (PySem.W.fnOf "divides" "divides" (defArgs s_divides) (defBody s_divides) (defScope s_divides) .none kV_divides dc_divides pm_divides an_divides cd_divides ct_divides), sl_divides⟩) (cc_divides : PySem.W.codeIn K cd_divides "divides" = true) (k_divides : PySem.W.keepIn K (.ref f_divides) = true)
    {f_least_ones : Addr} {od_least_ones an_least_ones : Option Addr} {sl_least_ones : Array (Option Value)} {oc_least_ones kV_least_ones dc_least_ones pm_least_ones cd_least_ones ct_least_ones : Value}
    (a_least_ones : PySem.W.nsIn K mainGlobals "least_ones" = some (some (.ref f_least_ones))) (l_least_ones : K.lookup f_least_ones = some ⟨oc_least_ones, od_least_ones, .func (PySem.W.fnOf "least_ones" "least_ones" (defArgs s_least_ones) (defBody s_least_ones) (defScope s_least_ones) .none kV_least_ones dc_least_ones pm_least_ones an_least_ones cd_least_ones ct_least_ones), sl_least_ones⟩) (cc_least_ones : PySem.W.codeIn K cd_least_ones "least_ones" = true) (k_least_ones : PySem.W.keepIn K (.ref f_least_ones) = true)
    {f_made : Addr} {od_made an_made : Option Addr} {sl_made : Array (Option Value)} {oc_made kV_made dc_made pm_made cd_made ct_made : Value}
    (a_made : PySem.W.nsIn K mainGlobals "made" = some (some (.ref f_made))) (l_made : K.lookup f_made = some ⟨oc_made, od_made, .func (PySem.W.fnOf "made" "made" (defArgs s_made) (defBody s_made) (defScope s_made) .none kV_made dc_made pm_made an_made cd_made ct_made), sl_made⟩) (cc_made : PySem.W.codeIn K cd_made "made" = true) (k_made : PySem.W.keepIn K (.ref f_made) = true)
    {f_ideal_of : Addr} {od_ideal_of an_ideal_of : Option Addr} {sl_ideal_of : Array (Option Value)} {oc_ideal_of kV_ideal_of dc_ideal_of pm_ideal_of cd_ideal_of ct_ideal_of : Value}
    (a_ideal_of : PySem.W.nsIn K mainGlobals "ideal_of" = some (some (.ref f_ideal_of))) (l_ideal_of : K.lookup f_ideal_of = some ⟨oc_ideal_of, od_ideal_of, .func (PySem.W.fnOf "ideal_of" "ideal_of" (defArgs s_ideal_of) (defBody s_ideal_of) (defScope s_ideal_of) .none kV_ideal_of dc_ideal_of pm_ideal_of an_ideal_of cd_ideal_of ct_ideal_of), sl_ideal_of⟩) (cc_ideal_of : PySem.W.codeIn K cd_ideal_of "ideal_of" = true) (k_ideal_of : PySem.W.keepIn K (.ref f_ideal_of) = true)
    {f_law_draw : Addr} {od_law_draw an_law_draw : Option Addr} {sl_law_draw : Array (Option Value)} {oc_law_draw kV_law_draw dc_law_draw pm_law_draw cd_law_draw ct_law_draw : Value}
    (a_law_draw : PySem.W.nsIn K mainGlobals "_law_draw" = some (some (.ref f_law_draw))) (l_law_draw : K.lookup f_law_draw = some ⟨oc_law_draw, od_law_draw, .func (PySem.W.fnOf "_law_draw" "_law_draw" (defArgs s_law_draw) (defBody s_law_draw) (defScope s_law_draw) .none kV_law_draw dc_law_draw pm_law_draw an_law_draw cd_law_draw ct_law_draw), sl_law_draw⟩) (cc_law_draw : PySem.W.codeIn K cd_law_draw "_law_draw" = true) (k_law_draw : PySem.W.keepIn K (.ref f_law_draw) = true)
    {f_law_monomial : Addr} {od_law_monomial an_law_monomial : Option Addr} {sl_law_monomial : Array (Option Value)} {oc_law_monomial kV_law_monomial dc_law_monomial pm_law_monomial cd_law_monomial ct_law_monomial : Value}
    (a_law_monomial : PySem.W.nsIn K mainGlobals "_law_monomial" = some (some (.ref f_law_monomial))) (l_law_monomial : K.lookup f_law_monomial = some ⟨oc_law_monomial, od_law_monomial, .func (PySem.W.fnOf "_law_monomial" "_law_monomial" (defArgs s_law_monomial) (defBody s_law_monomial) (defScope s_law_monomial) .none kV_law_monomial dc_law_monomial pm_law_monomial an_law_monomial cd_law_monomial ct_law_monomial), sl_law_monomial⟩) (cc_law_monomial : PySem.W.codeIn K cd_law_monomial "_law_monomial" = true) (k_law_monomial : PySem.W.keepIn K (.ref f_law_monomial) = true)
    {f_law_divides : Addr} {od_law_divides an_law_divides : Option Addr} {sl_law_divides : Array (Option Value)} {oc_law_divides kV_law_divides dc_law_divides pm_law_divides cd_law_divides ct_law_divides : Value}
    (a_law_divides : PySem.W.nsIn K mainGlobals "_law_divides" = some (some (.ref f_law_divides))) (l_law_divides : K.lookup f_law_divides = some ⟨oc_law_divides, od_law_divides, .func (PySem.W.fnOf "_law_divides" "_law_divides" (defArgs s_law_divides) (defBody s_law_divides) (defScope s_law_divides) .none kV_law_divides dc_law_divides pm_law_divides an_law_divides cd_law_divides ct_law_divides), sl_law_divides⟩) (cc_law_divides : PySem.W.codeIn K cd_law_divides "_law_divides" = true) (k_law_divides : PySem.W.keepIn K (.ref f_law_divides) = true)
    {f_law_least : Addr} {od_law_least an_law_least : Option Addr} {sl_law_least : Array (Option Value)} {oc_law_least kV_law_least dc_law_least pm_law_least cd_law_least ct_law_least : Value}
    (a_law_least : PySem.W.nsIn K mainGlobals "_law_least" = some (some (.ref f_law_least))) (l_law_least : K.lookup f_law_least = some ⟨oc_law_least, od_law_least, .func (PySem.W.fnOf "_law_least" "_law_least" (defArgs s_law_least) (defBody s_law_least) (defScope s_law_least) .none kV_law_least dc_law_least pm_law_least an_law_least cd_law_least ct_law_least), sl_law_least⟩) (cc_law_least : PySem.W.codeIn K cd_law_least "_law_least" = true) (k_law_least : PySem.W.keepIn K (.ref f_law_least) = true)
    {f_law_ideal : Addr} {od_law_ideal an_law_ideal : Option Addr} {sl_law_ideal : Array (Option Value)} {oc_law_ideal kV_law_ideal dc_law_ideal pm_law_ideal cd_law_ideal ct_law_ideal : Value}
    (a_law_ideal : PySem.W.nsIn K mainGlobals "_law_ideal" = some (some (.ref f_law_ideal))) (l_law_ideal : K.lookup f_law_ideal = some ⟨oc_law_ideal, od_law_ideal, .func (PySem.W.fnOf "_law_ideal" "_law_ideal" (defArgs s_law_ideal) (defBody s_law_ideal) (defScope s_law_ideal) .none kV_law_ideal dc_law_ideal pm_law_ideal an_law_ideal cd_law_ideal ct_law_ideal), sl_law_ideal⟩) (cc_law_ideal : PySem.W.codeIn K cd_law_ideal "_law_ideal" = true) (k_law_ideal : PySem.W.keepIn K (.ref f_law_ideal) = true)
    {f_law_small : Addr} {od_law_small an_law_small : Option Addr} {sl_law_small : Array (Option Value)} {oc_law_small kV_law_small dc_law_small pm_law_small cd_law_small ct_law_small : Value}
    (a_law_small : PySem.W.nsIn K mainGlobals "_law_small" = some (some (.ref f_law_small))) (l_law_small : K.lookup f_law_small = some ⟨oc_law_small, od_law_small, .func (PySem.W.fnOf "_law_small" "_law_small" (defArgs s_law_small) (defBody s_law_small) (defScope s_law_small) .none kV_law_small dc_law_small pm_law_small an_law_small cd_law_small ct_law_small), sl_law_small⟩) (cc_law_small : PySem.W.codeIn K cd_law_small "_law_small" = true) (k_law_small : PySem.W.keepIn K (.ref f_law_small) = true)
    {f_want_small : Addr} {od_want_small an_want_small : Option Addr} {sl_want_small : Array (Option Value)} {oc_want_small kV_want_small dc_want_small pm_want_small cd_want_small ct_want_small : Value}
    (a_want_small : PySem.W.nsIn K mainGlobals "want_small" = some (some (.ref f_want_small))) (l_want_small : K.lookup f_want_small = some ⟨oc_want_small, od_want_small, .func (PySem.W.fnOf "want_small" "want_small" (defArgs s_want_small) (defBody s_want_small) (defScope s_want_small) .none kV_want_small dc_want_small pm_want_small an_want_small cd_want_small ct_want_small), sl_want_small⟩) (cc_want_small : PySem.W.codeIn K cd_want_small "want_small" = true) (k_want_small : PySem.W.keepIn K (.ref f_want_small) = true)
    {f_as_pairs : Addr} {od_as_pairs an_as_pairs : Option Addr} {sl_as_pairs : Array (Option Value)} {oc_as_pairs kV_as_pairs dc_as_pairs pm_as_pairs cd_as_pairs ct_as_pairs : Value}
    (a_as_pairs : PySem.W.nsIn K mainGlobals "as_pairs" = some (some (.ref f_as_pairs))) (l_as_pairs : K.lookup f_as_pairs = some ⟨oc_as_pairs, od_as_pairs, .func (PySem.W.fnOf "as_pairs" "as_pairs" (defArgs s_as_pairs) (defBody s_as_pairs) (defScope s_as_pairs) .none kV_as_pairs dc_as_pairs pm_as_pairs an_as_pairs cd_as_pairs ct_as_pairs), sl_as_pairs⟩) (cc_as_pairs : PySem.W.codeIn K cd_as_pairs "as_pairs" = true) (k_as_pairs : PySem.W.keepIn K (.ref f_as_pairs) = true)
    {f_lcm_of : Addr} {od_lcm_of an_lcm_of : Option Addr} {sl_lcm_of : Array (Option Value)} {oc_lcm_of kV_lcm_of dc_lcm_of pm_lcm_of cd_lcm_of ct_lcm_of : Value}
    (a_lcm_of : PySem.W.nsIn K mainGlobals "lcm_of" = some (some (.ref f_lcm_of))) (l_lcm_of : K.lookup f_lcm_of = some ⟨oc_lcm_of, od_lcm_of, .func (PySem.W.fnOf "lcm_of" "lcm_of" (defArgs s_lcm_of) (defBody s_lcm_of) (defScope s_lcm_of) .none kV_lcm_of dc_lcm_of pm_lcm_of an_lcm_of cd_lcm_of ct_lcm_of), sl_lcm_of⟩) (cc_lcm_of : PySem.W.codeIn K cd_lcm_of "lcm_of" = true) (k_lcm_of : PySem.W.keepIn K (.ref f_lcm_of) = true)
    {f_numerator : Addr} {od_numerator an_numerator : Option Addr} {sl_numerator : Array (Option Value)} {oc_numerator kV_numerator dc_numerator pm_numerator cd_numerator ct_numerator : Value}
    (a_numerator : PySem.W.nsIn K mainGlobals "numerator" = some (some (.ref f_numerator))) (l_numerator : K.lookup f_numerator = some ⟨oc_numerator, od_numerator, .func (PySem.W.fnOf "numerator" "numerator" (defArgs s_numerator) (defBody s_numerator) (defScope s_numerator) .none kV_numerator dc_numerator pm_numerator an_numerator cd_numerator ct_numerator), sl_numerator⟩) (cc_numerator : PySem.W.codeIn K cd_numerator "numerator" = true) (k_numerator : PySem.W.keepIn K (.ref f_numerator) = true)
    {f_meet_of : Addr} {od_meet_of an_meet_of : Option Addr} {sl_meet_of : Array (Option Value)} {oc_meet_of kV_meet_of dc_meet_of pm_meet_of cd_meet_of ct_meet_of : Value}
    (a_meet_of : PySem.W.nsIn K mainGlobals "meet_of" = some (some (.ref f_meet_of))) (l_meet_of : K.lookup f_meet_of = some ⟨oc_meet_of, od_meet_of, .func (PySem.W.fnOf "meet_of" "meet_of" (defArgs s_meet_of) (defBody s_meet_of) (defScope s_meet_of) .none kV_meet_of dc_meet_of pm_meet_of an_meet_of cd_meet_of ct_meet_of), sl_meet_of⟩) (cc_meet_of : PySem.W.codeIn K cd_meet_of "meet_of" = true) (k_meet_of : PySem.W.keepIn K (.ref f_meet_of) = true)
    {f_count_by : Addr} {od_count_by an_count_by : Option Addr} {sl_count_by : Array (Option Value)} {oc_count_by kV_count_by dc_count_by pm_count_by cd_count_by ct_count_by : Value}
    (a_count_by : PySem.W.nsIn K mainGlobals "count_by" = some (some (.ref f_count_by))) (l_count_by : K.lookup f_count_by = some ⟨oc_count_by, od_count_by, .func (PySem.W.fnOf "count_by" "count_by" (defArgs s_count_by) (defBody s_count_by) (defScope s_count_by) .none kV_count_by dc_count_by pm_count_by an_count_by cd_count_by ct_count_by), sl_count_by⟩) (cc_count_by : PySem.W.codeIn K cd_count_by "count_by" = true) (k_count_by : PySem.W.keepIn K (.ref f_count_by) = true)
    {f_graded_numerator : Addr} {od_graded_numerator an_graded_numerator : Option Addr} {sl_graded_numerator : Array (Option Value)} {oc_graded_numerator kV_graded_numerator dc_graded_numerator pm_graded_numerator cd_graded_numerator ct_graded_numerator : Value}
    (a_graded_numerator : PySem.W.nsIn K mainGlobals "graded_numerator" = some (some (.ref f_graded_numerator))) (l_graded_numerator : K.lookup f_graded_numerator = some ⟨oc_graded_numerator, od_graded_numerator, .func (PySem.W.fnOf "graded_numerator" "graded_numerator" (defArgs s_graded_numerator) (defBody s_graded_numerator) (defScope s_graded_numerator) .none kV_graded_numerator dc_graded_numerator pm_graded_numerator an_graded_numerator cd_graded_numerator ct_graded_numerator), sl_graded_numerator⟩) (cc_graded_numerator : PySem.W.codeIn K cd_graded_numerator "graded_numerator" = true) (k_graded_numerator : PySem.W.keepIn K (.ref f_graded_numerator) = true)
    {f_count_left : Addr} {od_count_left an_count_left : Option Addr} {sl_count_left : Array (Option Value)} {oc_count_left kV_count_left dc_count_left pm_count_left cd_count_left ct_count_left : Value}
    (a_count_left : PySem.W.nsIn K mainGlobals "count_left" = some (some (.ref f_count_left))) (l_count_left : K.lookup f_count_left = some ⟨oc_count_left, od_count_left, .func (PySem.W.fnOf "count_left" "count_left" (defArgs s_count_left) (defBody s_count_left) (defScope s_count_left) .none kV_count_left dc_count_left pm_count_left an_count_left cd_count_left ct_count_left), sl_count_left⟩) (cc_count_left : PySem.W.codeIn K cd_count_left "count_left" = true) (k_count_left : PySem.W.keepIn K (.ref f_count_left) = true)
    {f_sum_of : Addr} {od_sum_of an_sum_of : Option Addr} {sl_sum_of : Array (Option Value)} {oc_sum_of kV_sum_of dc_sum_of pm_sum_of cd_sum_of ct_sum_of : Value}
    (a_sum_of : PySem.W.nsIn K mainGlobals "sum_of" = some (some (.ref f_sum_of))) (l_sum_of : K.lookup f_sum_of = some ⟨oc_sum_of, od_sum_of, .func (PySem.W.fnOf "sum_of" "sum_of" (defArgs s_sum_of) (defBody s_sum_of) (defScope s_sum_of) .none kV_sum_of dc_sum_of pm_sum_of an_sum_of cd_sum_of ct_sum_of), sl_sum_of⟩) (cc_sum_of : PySem.W.codeIn K cd_sum_of "sum_of" = true) (k_sum_of : PySem.W.keepIn K (.ref f_sum_of) = true)
    {f_times : Addr} {od_times an_times : Option Addr} {sl_times : Array (Option Value)} {oc_times kV_times dc_times pm_times cd_times ct_times : Value}
    (a_times : PySem.W.nsIn K mainGlobals "times" = some (some (.ref f_times))) (l_times : K.lookup f_times = some ⟨oc_times, od_times, .func (PySem.W.fnOf "times" "times" (defArgs s_times) (defBody s_times) (defScope s_times) .none kV_times dc_times pm_times an_times cd_times ct_times), sl_times⟩) (cc_times : PySem.W.codeIn K cd_times "times" = true) (k_times : PySem.W.keepIn K (.ref f_times) = true)
    {f_cut : Addr} {od_cut an_cut : Option Addr} {sl_cut : Array (Option Value)} {oc_cut kV_cut dc_cut pm_cut cd_cut ct_cut : Value}
    (a_cut : PySem.W.nsIn K mainGlobals "cut" = some (some (.ref f_cut))) (l_cut : K.lookup f_cut = some ⟨oc_cut, od_cut, .func (PySem.W.fnOf "cut" "cut" (defArgs s_cut) (defBody s_cut) (defScope s_cut) .none kV_cut dc_cut pm_cut an_cut cd_cut ct_cut), sl_cut⟩) (cc_cut : PySem.W.codeIn K cd_cut "cut" = true) (k_cut : PySem.W.keepIn K (.ref f_cut) = true)
    {f_split_table : Addr} {od_split_table an_split_table : Option Addr} {sl_split_table : Array (Option Value)} {oc_split_table kV_split_table dc_split_table pm_split_table cd_split_table ct_split_table : Value}
    (a_split_table : PySem.W.nsIn K mainGlobals "split_table" = some (some (.ref f_split_table))) (l_split_table : K.lookup f_split_table = some ⟨oc_split_table, od_split_table, .func (PySem.W.fnOf "split_table" "split_table" (defArgs s_split_table) (defBody s_split_table) (defScope s_split_table) .none kV_split_table dc_split_table pm_split_table an_split_table cd_split_table ct_split_table), sl_split_table⟩) (cc_split_table : PySem.W.codeIn K cd_split_table "split_table" = true) (k_split_table : PySem.W.keepIn K (.ref f_split_table) = true)
    {f_numerator_by_splitting : Addr} {od_numerator_by_splitting an_numerator_by_splitting : Option Addr} {sl_numerator_by_splitting : Array (Option Value)} {oc_numerator_by_splitting kV_numerator_by_splitting dc_numerator_by_splitting pm_numerator_by_splitting cd_numerator_by_splitting ct_numerator_by_splitting : Value}
    (a_numerator_by_splitting : PySem.W.nsIn K mainGlobals "numerator_by_splitting" = some (some (.ref f_numerator_by_splitting))) (l_numerator_by_splitting : K.lookup f_numerator_by_splitting = some ⟨oc_numerator_by_splitting, od_numerator_by_splitting, .func (PySem.W.fnOf "numerator_by_splitting" "numerator_by_splitting" (defArgs s_numerator_by_splitting) (defBody s_numerator_by_splitting) (defScope s_numerator_by_splitting) .none kV_numerator_by_splitting dc_numerator_by_splitting pm_numerator_by_splitting an_numerator_by_splitting cd_numerator_by_splitting ct_numerator_by_splitting), sl_numerator_by_splitting⟩) (cc_numerator_by_splitting : PySem.W.codeIn K cd_numerator_by_splitting "numerator_by_splitting" = true) (k_numerator_by_splitting : PySem.W.keepIn K (.ref f_numerator_by_splitting) = true)
    {f_law_box : Addr} {od_law_box an_law_box : Option Addr} {sl_law_box : Array (Option Value)} {oc_law_box kV_law_box dc_law_box pm_law_box cd_law_box ct_law_box : Value}
    (a_law_box : PySem.W.nsIn K mainGlobals "_law_box" = some (some (.ref f_law_box))) (l_law_box : K.lookup f_law_box = some ⟨oc_law_box, od_law_box, .func (PySem.W.fnOf "_law_box" "_law_box" (defArgs s_law_box) (defBody s_law_box) (defScope s_law_box) .none kV_law_box dc_law_box pm_law_box an_law_box cd_law_box ct_law_box), sl_law_box⟩) (cc_law_box : PySem.W.codeIn K cd_law_box "_law_box" = true) (k_law_box : PySem.W.keepIn K (.ref f_law_box) = true)
    {f_law_in : Addr} {od_law_in an_law_in : Option Addr} {sl_law_in : Array (Option Value)} {oc_law_in kV_law_in dc_law_in pm_law_in cd_law_in ct_law_in : Value}
    (a_law_in : PySem.W.nsIn K mainGlobals "_law_in" = some (some (.ref f_law_in))) (l_law_in : K.lookup f_law_in = some ⟨oc_law_in, od_law_in, .func (PySem.W.fnOf "_law_in" "_law_in" (defArgs s_law_in) (defBody s_law_in) (defScope s_law_in) .none kV_law_in dc_law_in pm_law_in an_law_in cd_law_in ct_law_in), sl_law_in⟩) (cc_law_in : PySem.W.codeIn K cd_law_in "_law_in" = true) (k_law_in : PySem.W.keepIn K (.ref f_law_in) = true)
    {f_law_count : Addr} {od_law_count an_law_count : Option Addr} {sl_law_count : Array (Option Value)} {oc_law_count kV_law_count dc_law_count pm_law_count cd_law_count ct_law_count : Value}
    (a_law_count : PySem.W.nsIn K mainGlobals "_law_count" = some (some (.ref f_law_count))) (l_law_count : K.lookup f_law_count = some ⟨oc_law_count, od_law_count, .func (PySem.W.fnOf "_law_count" "_law_count" (defArgs s_law_count) (defBody s_law_count) (defScope s_law_count) .none kV_law_count dc_law_count pm_law_count an_law_count cd_law_count ct_law_count), sl_law_count⟩) (cc_law_count : PySem.W.codeIn K cd_law_count "_law_count" = true) (k_law_count : PySem.W.keepIn K (.ref f_law_count) = true)
    {f_colon_by : Addr} {od_colon_by an_colon_by : Option Addr} {sl_colon_by : Array (Option Value)} {oc_colon_by kV_colon_by dc_colon_by pm_colon_by cd_colon_by ct_colon_by : Value}
    (a_colon_by : PySem.W.nsIn K mainGlobals "colon_by" = some (some (.ref f_colon_by))) (l_colon_by : K.lookup f_colon_by = some ⟨oc_colon_by, od_colon_by, .func (PySem.W.fnOf "colon_by" "colon_by" (defArgs s_colon_by) (defBody s_colon_by) (defScope s_colon_by) .none kV_colon_by dc_colon_by pm_colon_by an_colon_by cd_colon_by ct_colon_by), sl_colon_by⟩) (cc_colon_by : PySem.W.codeIn K cd_colon_by "colon_by" = true) (k_colon_by : PySem.W.keepIn K (.ref f_colon_by) = true)
    {f_is_whole : Addr} {od_is_whole an_is_whole : Option Addr} {sl_is_whole : Array (Option Value)} {oc_is_whole kV_is_whole dc_is_whole pm_is_whole cd_is_whole ct_is_whole : Value}
    (a_is_whole : PySem.W.nsIn K mainGlobals "is_whole" = some (some (.ref f_is_whole))) (l_is_whole : K.lookup f_is_whole = some ⟨oc_is_whole, od_is_whole, .func (PySem.W.fnOf "is_whole" "is_whole" (defArgs s_is_whole) (defBody s_is_whole) (defScope s_is_whole) .none kV_is_whole dc_is_whole pm_is_whole an_is_whole cd_is_whole ct_is_whole), sl_is_whole⟩) (cc_is_whole : PySem.W.codeIn K cd_is_whole "is_whole" = true) (k_is_whole : PySem.W.keepIn K (.ref f_is_whole) = true)
    {f_multiples : Addr} {od_multiples an_multiples : Option Addr} {sl_multiples : Array (Option Value)} {oc_multiples kV_multiples dc_multiples pm_multiples cd_multiples ct_multiples : Value}
    (a_multiples : PySem.W.nsIn K mainGlobals "multiples" = some (some (.ref f_multiples))) (l_multiples : K.lookup f_multiples = some ⟨oc_multiples, od_multiples, .func (PySem.W.fnOf "multiples" "multiples" (defArgs s_multiples) (defBody s_multiples) (defScope s_multiples) .none kV_multiples dc_multiples pm_multiples an_multiples cd_multiples ct_multiples), sl_multiples⟩) (cc_multiples : PySem.W.codeIn K cd_multiples "multiples" = true) (k_multiples : PySem.W.keepIn K (.ref f_multiples) = true)
    {f_signs : Addr} {od_signs an_signs : Option Addr} {sl_signs : Array (Option Value)} {oc_signs kV_signs dc_signs pm_signs cd_signs ct_signs : Value}
    (a_signs : PySem.W.nsIn K mainGlobals "signs" = some (some (.ref f_signs))) (l_signs : K.lookup f_signs = some ⟨oc_signs, od_signs, .func (PySem.W.fnOf "signs" "signs" (defArgs s_signs) (defBody s_signs) (defScope s_signs) .none kV_signs dc_signs pm_signs an_signs cd_signs ct_signs), sl_signs⟩) (cc_signs : PySem.W.codeIn K cd_signs "signs" = true) (k_signs : PySem.W.keepIn K (.ref f_signs) = true)
    {f_law : Addr} {od_law an_law : Option Addr} {sl_law : Array (Option Value)} {oc_law kV_law dc_law pm_law cd_law ct_law : Value}
    (a_law : PySem.W.nsIn K mainGlobals "law" = some (some (.ref f_law))) (l_law : K.lookup f_law = some ⟨oc_law, od_law, .func (PySem.W.fnOf "law" "law" (defArgs s_law) (defBody s_law) (defScope s_law) .none kV_law dc_law pm_law an_law cd_law ct_law), sl_law⟩) (cc_law : PySem.W.codeIn K cd_law "law" = true) (k_law : PySem.W.keepIn K (.ref f_law) = true)
    (z_any : PySem.W.nsIn K mainGlobals "any" = some none)
    (z_enumerate : PySem.W.nsIn K mainGlobals "enumerate" = some none)
    (z_int : PySem.W.nsIn K mainGlobals "int" = some none)
    (z_len : PySem.W.nsIn K mainGlobals "len" = some none)
    (z_list : PySem.W.nsIn K mainGlobals "list" = some none)
    (z_max : PySem.W.nsIn K mainGlobals "max" = some none)
    (z_min : PySem.W.nsIn K mainGlobals "min" = some none)
    (z_range : PySem.W.nsIn K mainGlobals "range" = some none)
    (z_set : PySem.W.nsIn K mainGlobals "set" = some none)
    (z_sorted : PySem.W.nsIn K mainGlobals "sorted" = some none)
    (z_sum : PySem.W.nsIn K mainGlobals "sum" = some none)
    (z_tuple : PySem.W.nsIn K mainGlobals "tuple" = some none)
    (z_zip : PySem.W.nsIn K mainGlobals "zip" = some none)
    {t_MOST_EXPONENT : Tok} (y_MOST_EXPONENT : PySem.W.nsIn K mainGlobals "MOST_EXPONENT" = some (some (.int 60 t_MOST_EXPONENT)))
    {t_MOST_GENERATORS : Tok} (y_MOST_GENERATORS : PySem.W.nsIn K mainGlobals "MOST_GENERATORS" = some (some (.int 60 t_MOST_GENERATORS)))
    {t_SMALL_GENERATORS : Tok} (y_SMALL_GENERATORS : PySem.W.nsIn K mainGlobals "SMALL_GENERATORS" = some (some (.int 10 t_SMALL_GENERATORS)))
    {t_SMALL_VARIABLES : Tok} (y_SMALL_VARIABLES : PySem.W.nsIn K mainGlobals "SMALL_VARIABLES" = some (some (.int 8 t_SMALL_VARIABLES)))
    (x_comb : PySem.W.nsIn K mainGlobals "comb" = some (some (.builtin "math.comb"))) :
    ∃ fd : FuncData, (∀ (s : Shared) (v : Value), BindsTo s fd ⟨[v], []⟩ [("script", v)]) ∧ ∀ base : Heap, K.In base → base.Ns mainGlobals mg → FnOk l.prog w K mg base CX0 15 fa fd ["script"] (hsp K sp_law) := by
  have e := hfa.symm.trans (PySem.W.mg_of X G a_law)
  cases e
  have T : Tx mg := ⟨PySem.W.mg_none_of X G z_any, PySem.W.mg_none_of X G z_enumerate, PySem.W.mg_none_of X G z_int, PySem.W.mg_none_of X G z_len, PySem.W.mg_none_of X G z_list, PySem.W.mg_none_of X G z_max, PySem.W.mg_none_of X G z_min, PySem.W.mg_none_of X G z_range, PySem.W.mg_none_of X G z_set, PySem.W.mg_none_of X G z_sorted, PySem.W.mg_none_of X G z_sum, PySem.W.mg_none_of X G z_tuple, PySem.W.mg_none_of X G z_zip, ⟨_, PySem.W.mg_of X G y_MOST_EXPONENT⟩, ⟨_, PySem.W.mg_of X G y_MOST_GENERATORS⟩, ⟨_, PySem.W.mg_of X G y_SMALL_GENERATORS⟩, ⟨_, PySem.W.mg_of X G y_SMALL_VARIABLES⟩, PySem.W.mg_of X G x_comb⟩
  refine ⟨PySem.W.fnOf "law" "law" (defArgs s_law) (defBody s_law) (defScope s_law) .none kV_law dc_law pm_law an_law cd_law ct_law, fun s v => .of_eq rfl, fun base _ _ => ?_⟩
  have C_law_begun : Cl l.prog w K mg base "_law_begun" 1 sp_law_begun := o_law_begun T  (fun_mk (st := s_law_begun) l_law_begun cc_law_begun k_law_begun) (PySem.W.mg_of X G a_law_begun) len_law_begun sem_law_begun
  have C_law_times : Cl l.prog w K mg base "_law_times" 1 sp_law_times := o_law_times T  (fun_mk (st := s_law_times) l_law_times cc_law_times k_law_times) (PySem.W.mg_of X G a_law_times) len_law_times sem_law_times
  have C_law_added : Cl l.prog w K mg base "_law_added" 2 sp_law_added := o_law_added T C_law_times (fun_mk (st := s_law_added) l_law_added cc_law_added k_law_added) (PySem.W.mg_of X G a_law_added) len_law_added sem_law_added
  have C_divides : Cl l.prog w K mg base "divides" 1 sp_divides := o_divides T  (fun_mk (st := s_divides) l_divides cc_divides k_divides) (PySem.W.mg_of X G a_divides) len_divides sem_divides
  have C_least_ones : Cl l.prog w K mg base "least_ones" 2 sp_least_ones := o_least_ones T C_divides (fun_mk (st := s_least_ones) l_least_ones cc_least_ones k_least_ones) (PySem.W.mg_of X G a_least_ones) len_least_ones sem_least_ones
  have C_made : Cl l.prog w K mg base "made" 3 sp_made := o_made T C_least_ones (fun_mk (st := s_made) l_made cc_made k_made) (PySem.W.mg_of X G a_made) len_made sem_made
  have C_ideal_of : Cl l.prog w K mg base "ideal_of" 4 sp_ideal_of := o_ideal_of T C_made (fun_mk (st := s_ideal_of) l_ideal_of cc_ideal_of k_ideal_of) (PySem.W.mg_of X G a_ideal_of) len_ideal_of sem_ideal_of
  have C_law_draw : Cl l.prog w K mg base "_law_draw" 1 sp_law_draw := o_law_draw T  (fun_mk (st := s_law_draw) l_law_draw cc_law_draw k_law_draw) (PySem.W.mg_of X G a_law_draw) len_law_draw sem_law_draw
  have C_law_monomial : Cl l.prog w K mg base "_law_monomial" 2 sp_law_monomial := o_law_monomial T C_law_draw (fun_mk (st := s_law_monomial) l_law_monomial cc_law_monomial k_law_monomial) (PySem.W.mg_of X G a_law_monomial) len_law_monomial sem_law_monomial
  have C_law_divides : Cl l.prog w K mg base "_law_divides" 1 sp_law_divides := o_law_divides T  (fun_mk (st := s_law_divides) l_law_divides cc_law_divides k_law_divides) (PySem.W.mg_of X G a_law_divides) len_law_divides sem_law_divides
  have C_law_least : Cl l.prog w K mg base "_law_least" 2 sp_law_least := o_law_least T C_law_divides (fun_mk (st := s_law_least) l_law_least cc_law_least k_law_least) (PySem.W.mg_of X G a_law_least) len_law_least sem_law_least
  have C_law_ideal : Cl l.prog w K mg base "_law_ideal" 3 sp_law_ideal := o_law_ideal T C_law_draw C_law_monomial C_law_least (fun_mk (st := s_law_ideal) l_law_ideal cc_law_ideal k_law_ideal) (PySem.W.mg_of X G a_law_ideal) len_law_ideal sem_law_ideal
  have C_law_small : Cl l.prog w K mg base "_law_small" 4 sp_law_small := o_law_small T C_law_ideal (fun_mk (st := s_law_small) l_law_small cc_law_small k_law_small) (PySem.W.mg_of X G a_law_small) len_law_small sem_law_small
  have C_want_small : Cl l.prog w K mg base "want_small" 1 sp_want_small := o_want_small T  (fun_mk (st := s_want_small) l_want_small cc_want_small k_want_small) (PySem.W.mg_of X G a_want_small) len_want_small sem_want_small
  have C_as_pairs : Cl l.prog w K mg base "as_pairs" 1 sp_as_pairs := o_as_pairs T  (fun_mk (st := s_as_pairs) l_as_pairs cc_as_pairs k_as_pairs) (PySem.W.mg_of X G a_as_pairs) len_as_pairs sem_as_pairs
  have C_lcm_of : Cl l.prog w K mg base "lcm_of" 1 sp_lcm_of := o_lcm_of T  (fun_mk (st := s_lcm_of) l_lcm_of cc_lcm_of k_lcm_of) (PySem.W.mg_of X G a_lcm_of) len_lcm_of sem_lcm_of
  have C_numerator : Cl l.prog w K mg base "numerator" 2 sp_numerator := o_numerator T C_want_small C_lcm_of C_as_pairs (fun_mk (st := s_numerator) l_numerator cc_numerator k_numerator) (PySem.W.mg_of X G a_numerator) len_numerator sem_numerator
  have C_meet_of : Cl l.prog w K mg base "meet_of" 4 sp_meet_of := o_meet_of T C_lcm_of C_made (fun_mk (st := s_meet_of) l_meet_of cc_meet_of k_meet_of) (PySem.W.mg_of X G a_meet_of) len_meet_of sem_meet_of
  have C_count_by : Cl l.prog w K mg base "count_by" 1 sp_count_by := o_count_by T  (fun_mk (st := s_count_by) l_count_by cc_count_by k_count_by) (PySem.W.mg_of X G a_count_by) len_count_by sem_count_by
  have C_graded_numerator : Cl l.prog w K mg base "graded_numerator" 3 sp_graded_numerator := o_graded_numerator T C_numerator (fun_mk (st := s_graded_numerator) l_graded_numerator cc_graded_numerator k_graded_numerator) (PySem.W.mg_of X G a_graded_numerator) len_graded_numerator sem_graded_numerator
  have C_count_left : Cl l.prog w K mg base "count_left" 4 sp_count_left := o_count_left T C_graded_numerator C_count_by (fun_mk (st := s_count_left) l_count_left cc_count_left k_count_left) (PySem.W.mg_of X G a_count_left) len_count_left sem_count_left
  have C_sum_of : Cl l.prog w K mg base "sum_of" 4 sp_sum_of := o_sum_of T C_made (fun_mk (st := s_sum_of) l_sum_of cc_sum_of k_sum_of) (PySem.W.mg_of X G a_sum_of) len_sum_of sem_sum_of
  have C_times : Cl l.prog w K mg base "times" 1 sp_times := o_times T  (fun_mk (st := s_times) l_times cc_times k_times) (PySem.W.mg_of X G a_times) len_times sem_times
  have C_cut : Cl l.prog w K mg base "cut" 1 sp_cut := o_cut T  (fun_mk (st := s_cut) l_cut cc_cut k_cut) (PySem.W.mg_of X G a_cut) len_cut sem_cut
  have C_split_table : Cl l.prog w K mg base "split_table" 13 (sp_split_table 11) := rec_split_table T C_cut C_least_ones C_times (fun_mk (st := s_split_table) l_split_table cc_split_table k_split_table) (PySem.W.mg_of X G a_split_table) zero_split_table len_split_table sem_split_table 11
  have C_numerator_by_splitting : Cl l.prog w K mg base "numerator_by_splitting" 14 sp_numerator_by_splitting := o_numerator_by_splitting T C_want_small C_split_table C_as_pairs (fun_mk (st := s_numerator_by_splitting) l_numerator_by_splitting cc_numerator_by_splitting k_numerator_by_splitting) (PySem.W.mg_of X G a_numerator_by_splitting) len_numerator_by_splitting sem_numerator_by_splitting
  have C_law_box : Cl l.prog w K mg base "_law_box" 1 sp_law_box := o_law_box T  (fun_mk (st := s_law_box) l_law_box cc_law_box k_law_box) (PySem.W.mg_of X G a_law_box) len_law_box sem_law_box
  have C_law_in : Cl l.prog w K mg base "_law_in" 2 sp_law_in := o_law_in T C_law_divides (fun_mk (st := s_law_in) l_law_in cc_law_in k_law_in) (PySem.W.mg_of X G a_law_in) len_law_in sem_law_in
  have C_law_count : Cl l.prog w K mg base "_law_count" 3 sp_law_count := o_law_count T C_law_box C_law_in (fun_mk (st := s_law_count) l_law_count cc_law_count k_law_count) (PySem.W.mg_of X G a_law_count) len_law_count sem_law_count
  have C_colon_by : Cl l.prog w K mg base "colon_by" 4 sp_colon_by := o_colon_by T C_cut C_made (fun_mk (st := s_colon_by) l_colon_by cc_colon_by k_colon_by) (PySem.W.mg_of X G a_colon_by) len_colon_by sem_colon_by
  have C_is_whole : Cl l.prog w K mg base "is_whole" 1 sp_is_whole := o_is_whole T  (fun_mk (st := s_is_whole) l_is_whole cc_is_whole k_is_whole) (PySem.W.mg_of X G a_is_whole) len_is_whole sem_is_whole
  have C_multiples : Cl l.prog w K mg base "multiples" 2 sp_multiples := o_multiples T C_lcm_of (fun_mk (st := s_multiples) l_multiples cc_multiples k_multiples) (PySem.W.mg_of X G a_multiples) len_multiples sem_multiples
  have C_signs : Cl l.prog w K mg base "signs" 3 sp_signs := o_signs T C_want_small C_is_whole C_multiples C_divides (fun_mk (st := s_signs) l_signs cc_signs k_signs) (PySem.W.mg_of X G a_signs) len_signs sem_signs
  exact fn_ok (fun_mk (st := s_law) l_law cc_law k_law) S_law len_law (d_law T C_law_begun C_law_draw C_law_monomial C_law_small C_meet_of C_numerator C_sum_of C_law_added C_ideal_of C_colon_by C_numerator_by_splitting C_signs C_count_left C_law_count) sem_law
theorem walk {l : PySem.W.OpenLaw} {q : Program} {loose : List Str} {XP : (Str → Option Value) → Heap → Prop} {YP : World → Heap → Prop} {d : DefRec} {K : Params → PySem.W.Frag} (hn : l.most = some 63) (hdf : d.params.defaults = [])
    (hY : ∀ (w : World) (h : Heap), YP w h → (K w.params).In h)
    (F : ∀ (w : World) (mg : Str → Option Value) (fa : Addr) (h : Heap), (K w.params).In h → h.Ns mainGlobals mg → mg d.name = some (.ref fa) →
      ∃ fd : FuncData, (∀ (s : Shared) (u : Value), BindsTo s fd ⟨[u], []⟩ [("script", u)]) ∧ ∀ base : Heap, (K w.params).In base → base.Ns mainGlobals mg → FnOk l.prog w (K w.params) mg base CX0 15 fa fd ["script"] (hsp (K w.params) sp_law)) :
    PySem.W.WalkO q loose XP YP l.row.toRowW d [] (fun f vs => PySem.call f vs) :=
  L2.walk_of (n := 63) (k := 15) (x := "script") (CX := fun _ => CX0) (sp := fun w => hsp (K w.params) sp_law) hn (by decide) hdf ⟨rfl, by decide, by decide⟩ hY F (fun w H a ns hl hb hS => law_start U.law_true hl hb hS) fun _ _ _ _ _ z => z
end GD
open PySem PySem.W PyProof.Rows in
set_option maxRecDepth 100000 in
set_option maxHeartbeats 0 in
theorem PySem.Challenge.cw_jointneeds_k92_whole_numerators_added_holds : PySem.Challenge.rw_jointneeds_k92_whole_numerators_added.Holds := by
  refine head_k92 ?_
  k_fill
  refine GD.walk (l := PySem.Challenge.rw_jointneeds_k92_whole_numerators_added) rfl rfl (fun w h Y => PySem.W.kIn_of Y) ?F
  case F =>
    intro w mg fa h KX G hmg
    refine' GD.all_mk KX G hmg ?a_law_begun ?l_law_begun ?cc_law_begun ?k_law_begun ?a_law_times ?l_law_times ?cc_law_times ?k_law_times ?a_law_added ?l_law_added ?cc_law_added ?k_law_added ?a_divides ?l_divides ?cc_divides ?k_divides ?a_least_ones ?l_least_ones ?cc_least_ones ?k_least_ones ?a_made ?l_made ?cc_made ?k_made ?a_ideal_of ?l_ideal_of ?cc_ideal_of ?k_ideal_of ?a_law_draw ?l_law_draw ?cc_law_draw ?k_law_draw ?a_law_monomial ?l_law_monomial ?cc_law_monomial ?k_law_monomial ?a_law_divides ?l_law_divides ?cc_law_divides ?k_law_divides ?a_law_least ?l_law_least ?cc_law_least ?k_law_least ?a_law_ideal ?l_law_ideal ?cc_law_ideal ?k_law_ideal ?a_law_small ?l_law_small ?cc_law_small ?k_law_small ?a_want_small ?l_want_small ?cc_want_small ?k_want_small ?a_as_pairs ?l_as_pairs ?cc_as_pairs ?k_as_pairs ?a_lcm_of ?l_lcm_of ?cc_lcm_of ?k_lcm_of ?a_numerator ?l_numerator ?cc_numerator ?k_numerator ?a_meet_of ?l_meet_of ?cc_meet_of ?k_meet_of ?a_count_by ?l_count_by ?cc_count_by ?k_count_by ?a_graded_numerator ?l_graded_numerator ?cc_graded_numerator ?k_graded_numerator ?a_count_left ?l_count_left ?cc_count_left ?k_count_left ?a_sum_of ?l_sum_of ?cc_sum_of ?k_sum_of ?a_times ?l_times ?cc_times ?k_times ?a_cut ?l_cut ?cc_cut ?k_cut ?a_split_table ?l_split_table ?cc_split_table ?k_split_table ?a_numerator_by_splitting ?l_numerator_by_splitting ?cc_numerator_by_splitting ?k_numerator_by_splitting ?a_law_box ?l_law_box ?cc_law_box ?k_law_box ?a_law_in ?l_law_in ?cc_law_in ?k_law_in ?a_law_count ?l_law_count ?cc_law_count ?k_law_count ?a_colon_by ?l_colon_by ?cc_colon_by ?k_colon_by ?a_is_whole ?l_is_whole ?cc_is_whole ?k_is_whole ?a_multiples ?l_multiples ?cc_multiples ?k_multiples ?a_signs ?l_signs ?cc_signs ?k_signs ?a_law ?l_law ?cc_law ?k_law ?z_any ?z_enumerate ?z_int ?z_len ?z_list ?z_max ?z_min ?z_range ?z_set ?z_sorted ?z_sum ?z_tuple ?z_zip ?y_MOST_EXPONENT ?y_MOST_GENERATORS ?y_SMALL_GENERATORS ?y_SMALL_VARIABLES ?x_comb
    (case a_law_begun => k_is)
    (case l_law_begun => k_is)
    (case cc_law_begun => k_is)
    (case k_law_begun => k_is)
    (case a_law_times => k_is)
    (case l_law_times => k_is)
    (case cc_law_times => k_is)
    (case k_law_times => k_is)
    (case a_law_added => k_is)
    (case l_law_added => k_is)
    (case cc_law_added => k_is)
    (case k_law_added => k_is)
    (case a_divides => k_is)
    (case l_divides => k_is)
    (case cc_divides => k_is)
    (case k_divides => k_is)
    (case a_least_ones => k_is)
    (case l_least_ones => k_is)
    (case cc_least_ones => k_is)
    (case k_least_ones => k_is)
    (case a_made => k_is)
    (case l_made => k_is)
    (case cc_made => k_is)
    (case k_made => k_is)
    (case a_ideal_of => k_is)
    (case l_ideal_of => k_is)
    (case cc_ideal_of => k_is)
    (case k_ideal_of => k_is)
    (case a_law_draw => k_is)
    (case l_law_draw => k_is)
    (case cc_law_draw => k_is)
    (case k_law_draw => k_is)
    (case a_law_monomial => k_is)
    (case l_law_monomial => k_is)
    (case cc_law_monomial => k_is)
    (case k_law_monomial => k_is)
    (case a_law_divides => k_is)
    (case l_law_divides => k_is)
    (case cc_law_divides => k_is)
    (case k_law_divides => k_is)
    (case a_law_least => k_is)
    (case l_law_least => k_is)
    (case cc_law_least => k_is)
    (case k_law_least => k_is)
    (case a_law_ideal => k_is)
    (case l_law_ideal => k_is)
    (case cc_law_ideal => k_is)
    (case k_law_ideal => k_is)
    (case a_law_small => k_is)
    (case l_law_small => k_is)
    (case cc_law_small => k_is)
    (case k_law_small => k_is)
    (case a_want_small => k_is)
    (case l_want_small => k_is)
    (case cc_want_small => k_is)
    (case k_want_small => k_is)
    (case a_as_pairs => k_is)
    (case l_as_pairs => k_is)
    (case cc_as_pairs => k_is)
    (case k_as_pairs => k_is)
    (case a_lcm_of => k_is)
    (case l_lcm_of => k_is)
    (case cc_lcm_of => k_is)
    (case k_lcm_of => k_is)
    (case a_numerator => k_is)
    (case l_numerator => k_is)
    (case cc_numerator => k_is)
    (case k_numerator => k_is)
    (case a_meet_of => k_is)
    (case l_meet_of => k_is)
    (case cc_meet_of => k_is)
    (case k_meet_of => k_is)
    (case a_count_by => k_is)
    (case l_count_by => k_is)
    (case cc_count_by => k_is)
    (case k_count_by => k_is)
    (case a_graded_numerator => k_is)
    (case l_graded_numerator => k_is)
    (case cc_graded_numerator => k_is)
    (case k_graded_numerator => k_is)
    (case a_count_left => k_is)
    (case l_count_left => k_is)
    (case cc_count_left => k_is)
    (case k_count_left => k_is)
    (case a_sum_of => k_is)
    (case l_sum_of => k_is)
    (case cc_sum_of => k_is)
    (case k_sum_of => k_is)
    (case a_times => k_is)
    (case l_times => k_is)
    (case cc_times => k_is)
    (case k_times => k_is)
    (case a_cut => k_is)
    (case l_cut => k_is)
    (case cc_cut => k_is)
    (case k_cut => k_is)
    (case a_split_table => k_is)
    (case l_split_table => k_is)
    (case cc_split_table => k_is)
    (case k_split_table => k_is)
    (case a_numerator_by_splitting => k_is)
    (case l_numerator_by_splitting => k_is)
    (case cc_numerator_by_splitting => k_is)
    (case k_numerator_by_splitting => k_is)
    (case a_law_box => k_is)
    (case l_law_box => k_is)
    (case cc_law_box => k_is)
    (case k_law_box => k_is)
    (case a_law_in => k_is)
    (case l_law_in => k_is)
    (case cc_law_in => k_is)
    (case k_law_in => k_is)
    (case a_law_count => k_is)
    (case l_law_count => k_is)
    (case cc_law_count => k_is)
    (case k_law_count => k_is)
    (case a_colon_by => k_is)
    (case l_colon_by => k_is)
    (case cc_colon_by => k_is)
    (case k_colon_by => k_is)
    (case a_is_whole => k_is)
    (case l_is_whole => k_is)
    (case cc_is_whole => k_is)
    (case k_is_whole => k_is)
    (case a_multiples => k_is)
    (case l_multiples => k_is)
    (case cc_multiples => k_is)
    (case k_multiples => k_is)
    (case a_signs => k_is)
    (case l_signs => k_is)
    (case cc_signs => k_is)
    (case k_signs => k_is)
    (case a_law => k_is)
    (case l_law => k_is)
    (case cc_law => k_is)
    (case k_law => k_is)
    (case z_any => k_is)
    (case z_enumerate => k_is)
    (case z_int => k_is)
    (case z_len => k_is)
    (case z_list => k_is)
    (case z_max => k_is)
    (case z_min => k_is)
    (case z_range => k_is)
    (case z_set => k_is)
    (case z_sorted => k_is)
    (case z_sum => k_is)
    (case z_tuple => k_is)
    (case z_zip => k_is)
    (case y_MOST_EXPONENT => k_is)
    (case y_MOST_GENERATORS => k_is)
    (case y_SMALL_GENERATORS => k_is)
    (case y_SMALL_VARIABLES => k_is)
    (case x_comb => k_is)
end
