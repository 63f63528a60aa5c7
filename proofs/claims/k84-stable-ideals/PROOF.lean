import PyProof.Rows.All
import Wide.All
import OpenK.AllK
import Wide.FinOn
import HandS.ForMost
import HandS.Wide
import HandS.TupMul
import HandS.IsInst
import HandS.Deep
import HandS.Flow
import HandS.Style
import HandS.Lambda
import HandS.TupAny
import HandS.Zip
import KE.GoesMore
import KE.KTupSum
import HandS.TupSets
import KE.DatumOrd
import HandS.Gcd
import KE.KMathGC
import HandS.Conv
import HandS.Strs
import KE.SortData
import KE.LtData
import KE.LtSeq
import PyProof.P3In
import PyProof.Rows.TupDisplay
import HandS.DictTup
import HandS.Iter
import HandS.SortKw
import PyProof.Rows.NestShow
import HandS.SetFor
import HandS.Set
import PyProof.ZipIter
import PyProof.CallType
import PyProof.Walk
import PyProof.WalkLemmas
import PyProof.RangeIter
import PyProof.RulesTry
import HandS.RepeatKit
import HandS.GenList
import HandS.ExcValue
import HandS.ExcOwn
import KE.KRevSl
import HandS.Base
import HandS.Call
import HandS.List
import KE.KSuper
import KE.KExcSuper
import HandS.Exc
import HandS.ExcInit
import HandS.Words
import HandS.WordsExc
import KE.KExcIs
import HandS.ExcField
import HandS.ExcIs
import HandS.EndTab
import HandS.TupLe
import KE.KSortKeySt
import KE.KDictItemsList
import KE.KEqDict
import KE.KDictWalk
import HandS.DictEq
import HandS.DictComp
import PyProof.Rows.RegRepr
import PySem.Challenge.RW_jointneeds_k84_stable_ideals
section
set_option Elab.async false
set_option linter.all false
set_option pp.maxSteps 200
set_option maxRecDepth 100000
set_option maxHeartbeats 0
open PySem PySem.W PyProof.Rows
open_top head_k84 for PySem.Challenge.rw_jointneeds_k84_stable_ideals
end
section
set_option Elab.async false
set_option linter.all false
set_option maxRecDepth 100000
set_option maxHeartbeats 2000000
namespace DL
open PySem L2 PyProof.Rows
inductive DV where
  | d (x : PyData)
  | r (a : Addr)
  | t (xs : List DV)
inductive MO where
  | lst (xs : List DV)
  | dK (kvs : List (Key × DV))
  | dT (kvs : List (List Key × DV))
  | ins (C : Addr) (fs : List (Str × DV))
  | lk (o : Obj) (ws : List (List Key × V)) (kvs : List (List Key × DV))
  | xd (fs : List (Str × DV))
abbrev Sto := Addr → Option MO
abbrev Env := List (Option DV)
def up (s : Sto) (a : Addr) (m : MO) : Sto := fun b => if b = a then some m else s b
theorem up_same {s : Sto} {a : Addr} {m : MO} : up s a m a = some m := if_pos rfl
theorem up_ne {s : Sto} {a b : Addr} {m : MO} (h : b ≠ a) : up s a m b = s b := if_neg h
/-- no table of code objects -/
abbrev NoTb (o : HO) : Prop := ∀ ps, o ≠ .tbl ps
theorem tb_or (o : HO) : (∃ ps, o = .tbl ps) ∨ NoTb o := by
  by_cases h : ∃ ps, o = .tbl ps
  · exact .inl h
  · exact .inr fun ps e => h ⟨ps, e⟩
structure Step (F H : Hp) (st : Sto) (F' H' : Hp) (st' : Sto) : Prop where
  ex : ∀ a o, F a = some o → F' a = some o
  pres : ∀ a o, H a = some o → NoTb o → st a = none → H' a = some o ∧ st' a = none
  fnew : ∀ a o, F' a = some o → F a ≠ none ∨ H a = none ∨ st a ≠ none ∨ (∃ ts, H a = some (.tup ts)) ∨ ∃ ps, H a = some (.tbl ps)
theorem Step.of {F H F' H' : Hp} {st st' : Sto} (ex : ∀ a o, F a = some o → F' a = some o) (pres : ∀ a o, H a = some o → st a = none → H' a = some o ∧ st' a = none) (fnew : ∀ a o, F' a = some o → F a ≠ none ∨ H a = none ∨ st a ≠ none ∨ ∃ ts, H a = some (.tup ts)) : Step F H st F' H' st' :=
  ⟨ex, fun a o h _ k => pres a o h k, fun a o h => by
    rcases fnew a o h with z | z | z | z
    · exact .inl z
    · exact .inr (.inl z)
    · exact .inr (.inr (.inl z))
    · exact .inr (.inr (.inr (.inl z)))⟩
theorem Step.refl (F H : Hp) (st : Sto) : Step F H st F H st := Step.of (fun _ _ h => h) (fun _ _ h k => ⟨h, k⟩) (fun a o h => .inl (by rw [h]; exact fun q => nomatch q))
theorem Step.trans {F H : Hp} {st : Sto} {F1 H1 : Hp} {st1 : Sto} {F2 H2 : Hp} {st2 : Sto} (a : Step F H st F1 H1 st1) (b : Step F1 H1 st1 F2 H2 st2) : Step F H st F2 H2 st2 where
  ex := fun x o h => b.ex x o (a.ex x o h)
  pres := fun x o h n k => let ⟨h1, k1⟩ := a.pres x o h n k; b.pres x o h1 n k1
  fnew := fun x o h => by
    cases e : H x with
    | none => exact .inr (.inl rfl)
    | some u =>
      rcases tb_or u with ⟨ps, rfl⟩ | nt
      · exact .inr (.inr (.inr (.inr ⟨ps, rfl⟩)))
      cases e2 : st x with
      | some m => exact .inr (.inr (.inl fun z => nomatch z))
      | none =>
        obtain ⟨h1, k1⟩ := a.pres x u e nt e2
        rcases b.fnew x o h with q | q | q | ⟨ts, q⟩ | ⟨ps, q⟩
        · cases e1 : F1 x with
          | none => exact absurd e1 q
          | some u1 =>
            rcases a.fnew x u1 e1 with z | z | z | ⟨ts, z⟩ | ⟨ps, z⟩
            · exact .inl z
            · rw [e] at z; cases z
            · exact absurd e2 z
            · rw [e] at z; cases z; exact .inr (.inr (.inr (.inl ⟨ts, rfl⟩)))
            · rw [e] at z; cases z; exact absurd rfl (nt ps)
        · rw [q] at h1; cases h1
        · exact absurd k1 q
        · rw [q] at h1; cases h1; exact .inr (.inr (.inr (.inl ⟨ts, rfl⟩)))
        · rw [q] at h1; cases h1; exact absurd rfl (nt ps)
/-- what is known of the states of a run, kept by all that follows -/
class Gr where
  gr : Hp → Hp → Sto → Prop
  cl : ∀ {F H : Hp} {st : Sto} {F' H' : Hp} {st' : Sto}, gr F H st → Step F H st F' H' st' → gr F' H' st'
instance (priority := low) Gr.tr : Gr := ⟨fun _ _ _ => True, fun _ _ => True.intro⟩
/-- the tables of code objects in which lambdas are made: each with the name of all that it tells -/
class Tb where
  T : List (Addr × Str)
instance (priority := low) Tb.nil : Tb := ⟨[]⟩
/-- the table at P is known, it tells only code objects of the name q -/
def TabT (F H : Hp) (st : Sto) (P : Addr) (q : Str) : Prop := F P = none ∧ st P = none ∧ ∃ ps : Array Value, H P = some (.tbl ps) ∧ TriplesOk ps.toList ∧ ∀ (pos : Pos) (cv : Value), codeAmong pos ps.toList = some cv → ∃ c, cv = .ref c ∧ H c = some (LamX.CodeO c q) ∧ st c = none
theorem TabT.keep {F H F' H' : Hp} {st st' : Sto} {P : Addr} {q : Str} (t : TabT F H st P q) (e : ∀ a o, H a = some o → st a = none → H' a = some o ∧ st' a = none) (n : ∀ a o, F' a = some o → F a ≠ none ∨ H a = none ∨ st a ≠ none ∨ ∃ ts, H a = some (.tup ts)) : TabT F' H' st' P q := by
  obtain ⟨hF, h0, ps, h1, h2, h3⟩ := t
  refine ⟨?_, (e _ _ h1 h0).2, ps, (e _ _ h1 h0).1, h2, fun pos cv hc => ?_⟩
  · cases e2 : F' P with
    | none => rfl
    | some o =>
      rcases n P o e2 with z | z | z | ⟨ts, z⟩
      · exact absurd hF z
      · rw [h1] at z; cases z
      · exact absurd h0 z
      · rw [h1] at z; cases z
  · obtain ⟨c, e1, e2, e3⟩ := h3 pos cv hc
    exact ⟨c, e1, e _ _ e2 e3⟩
abbrev TabA [tB : Tb] (F H : Hp) (st : Sto) : Prop := ∀ p ∈ tB.T, TabT F H st p.1 p.2
theorem TabA.keep [tB : Tb] {F H F' H' : Hp} {st st' : Sto} (t : TabA F H st) (e : ∀ a o, H a = some o → st a = none → H' a = some o ∧ st' a = none) (n : ∀ a o, F' a = some o → F a ≠ none ∨ H a = none ∨ st a ≠ none ∨ ∃ ts, H a = some (.tup ts)) : TabA F' H' st' := fun p hp => (t p hp).keep e n
theorem old_F {F H : Hp} {st : Sto} : ∀ a o, F a = some o → F a ≠ none ∨ H a = none ∨ st a ≠ none ∨ ∃ ts, H a = some (.tup ts) := fun a o h => .inl (by rw [h]; exact fun z => (nomatch z))
def plainB : HO → Bool
  | .tbl _ => false
  | .ext _ => false
  | _ => true
theorem plain_co {o : HO} (h : plainB o = true) (c : Addr) (q : Str) : o ≠ LamX.CodeO c q := fun z => by
  rw [z] at h
  unfold LamX.CodeO at h
  cases h
theorem TabA.up [tB : Tb] {F H : Hp} {st : Sto} (t : TabA F H st) {p : Addr} {o : HO} {m : MO} (hp : H p = some o) (h : plainB o = true := by rfl) : TabA F H (up st p m) := fun P hP => by
  obtain ⟨hF, h0, ps, h1, h2, h3⟩ := t P hP
  refine ⟨hF, ?_, ps, h1, h2, fun pos cv hc => ?_⟩
  · rw [up_ne (fun z => by rw [z, hp] at h1; cases h1; cases h)]
    exact h0
  · obtain ⟨c, e1, e2, e3⟩ := h3 pos cv hc
    refine ⟨c, e1, e2, ?_⟩
    rw [up_ne (fun z => by rw [z, hp] at e2; exact plain_co h _ _ (Option.some.inj e2))]
    exact e3
theorem TabA.see [tB : Tb] {F H : Hp} {st : Sto} (t : TabA F H st) {p : Addr} {o o' : HO} (hp : H p = some o) (h : plainB o = true := by rfl) : TabA (upd F p o') H st := fun P hP => by
  obtain ⟨hF, h0, ps, h1, h2, h3⟩ := t P hP
  refine ⟨?_, h0, ps, h1, h2, h3⟩
  rw [upd_ne (fun z => by rw [z, hp] at h1; cases h1; cases h)]
  exact hF
theorem TabA.none [tB : Tb] {F H : Hp} {st : Sto} (t : TabA F H st) {a : Addr} (h : H a = none) : ∀ p ∈ tB.T, p.1 ≠ a := fun p hp z => by
  obtain ⟨_, _, ps, h1, _⟩ := t p hp
  rw [z, h] at h1
  cases h1
variable [tB : Tb] [gR : Gr]
section
variable (K : PySem.W.Frag)
mutual
inductive Rp (F : Hp) : V → PyData → Prop
  | non : Rp F .non .none
  | bl (b : Bool) : Rp F (.bl b) (.bool b)
  | int (i : Int) : Rp F (.int i) (.int i)
  | str (x : Str) : Rp F (.str x) (.str x)
  | lst {a : Addr} {xs : List V} {ds : List PyData} : SqL K F a xs → RpAll F xs ds → Rp F (.ref a) (.list ds)
  | tup {a : Addr} {xs : List V} {ds : List PyData} : F a = some (.tup xs) → RpAll F xs ds → Rp F (.ref a) (.tuple ds)
inductive RpAll (F : Hp) : List V → List PyData → Prop
  | nil : RpAll F [] []
  | cons {v : V} {vs : List V} {d : PyData} {ds : List PyData} : Rp F v d → RpAll F vs ds → RpAll F (v :: vs) (d :: ds)
end
mutual
inductive RV (F : Hp) : V → DV → Prop
  | d {v : V} {x : PyData} : Rp K F v x → RV F v (.d x)
  | r (a : Addr) : RV F (.ref a) (.r a)
  | t {a : Addr} {vs : List V} {xs : List DV} : F a = some (.tup vs) → RVs F vs xs → RV F (.ref a) (.t xs)
inductive RVs (F : Hp) : List V → List DV → Prop
  | nil : RVs F [] []
  | cons {v : V} {vs : List V} {x : DV} {xs : List DV} : RV F v x → RVs F vs xs → RVs F (v :: vs) (x :: xs)
end
def MOk (F H : Hp) (a : Addr) : MO → Prop
  | .lst xs => ∃ vs, H a = some (.lst vs) ∧ RVs K F vs xs
  | .dK kvs => ∃ ws, H a = some (.dK ws) ∧ Paired (fun p q => p.1 = q.1 ∧ RV K F p.2 q.2) ws kvs
  | .dT kvs => ∃ ws, H a = some (.dT ws) ∧ Paired (fun p q => p.1 = q.1 ∧ RV K F p.2 q.2) ws kvs
  | .ins C fs => ∃ dx ws, H a = some (.ins C dx ws) ∧ Paired (fun p q => p.1 = q.1 ∧ RV K F p.2 q.2) ws fs
  | .lk o ws kvs => H a = some (.frz o (.dT ws)) ∧ Paired (fun p q => p.1 = q.1 ∧ RV K F p.2 q.2) ws kvs
  | .xd fs => ∃ ws, H a = some (.xd ws) ∧ Paired (fun p q => p.1 = q.1 ∧ RV K F p.2 q.2) ws fs
structure Rs0 (F H : Hp) (st : Sto) : Prop where
  sub : ∀ a o, F a = some o → H a = some o ∧ st a = none
  ok : ∀ a m, st a = some m → MOk K F H a m
  tb : TabA F H st
structure Rs (F H : Hp) (st : Sto) : Prop extends Rs0 K F H st where
  gr : gR.gr F H st
def RE (F : Hp) (σ : L2.St) (ε : Env) : Prop := σ.length = ε.length ∧ ∀ (i : Nat) (x : DV), ε[i]? = some (some x) → ∃ v, σ[i]? = some (some v) ∧ RV K F v x
end
section
variable {K : PySem.W.Frag} {F F' H H' : Hp} {st st' : Sto} {σ : L2.St} {ε : Env}
theorem Rd.mono {a : Addr} {u : HO} (e : ∀ a o, F a = some o → F' a = some o) (h : Rd F a u) : Rd F' a u := by
  rcases h with h | ⟨o, h⟩
  · exact .inl (e _ _ h)
  · exact .inr ⟨o, e _ _ h⟩
theorem SqL.mono {a : Addr} {xs : List V} (e : ∀ a o, F a = some o → F' a = some o) (h : SqL K F a xs) : SqL K F' a xs := by
  rcases h with h | h
  · exact .inl (Rd.mono e h)
  · exact .inr h
theorem SqT.mono {a : Addr} {xs : List V} (e : ∀ a o, F a = some o → F' a = some o) (h : SqT K F a xs) : SqT K F' a xs := by
  rcases h with h | h
  · exact .inl (Rd.mono e h)
  · exact .inr h
mutual
theorem Rp.mono (e : ∀ a o, F a = some o → F' a = some o) : ∀ {v : V} {d : PyData}, Rp K F v d → Rp K F' v d
  | _, _, .non => .non
  | _, _, .bl b => .bl b
  | _, _, .int i => .int i
  | _, _, .str x => .str x
  | _, _, .lst h q => .lst (SqL.mono e h) (RpAll.mono e q)
  | _, _, .tup h q => .tup (e _ _ h) (RpAll.mono e q)
theorem RpAll.mono (e : ∀ a o, F a = some o → F' a = some o) : ∀ {vs : List V} {ds : List PyData}, RpAll K F vs ds → RpAll K F' vs ds
  | _, _, .nil => .nil
  | _, _, .cons h q => .cons (Rp.mono e h) (RpAll.mono e q)
end
mutual
theorem Rp.dp (e : ∀ a o, F a = some o → H a = some o) : ∀ {v : V} {d : PyData}, Rp K F v d → Dp K H v d
  | _, _, .non => .non
  | _, _, .bl b => .bl b
  | _, _, .int i => .int i
  | _, _, .str x => .str x
  | _, _, .lst h q => .lst (SqL.mono e h) (RpAll.dp e q)
  | _, _, .tup h q => .tup (SqT.of (e _ _ h)) (RpAll.dp e q)
theorem RpAll.dp (e : ∀ a o, F a = some o → H a = some o) : ∀ {vs : List V} {ds : List PyData}, RpAll K F vs ds → DpAll K H vs ds
  | _, _, .nil => .nil
  | _, _, .cons h q => .cons (Rp.dp e h) (RpAll.dp e q)
end
mutual
theorem RV.mono (e : ∀ a o, F a = some o → F' a = some o) : ∀ {v : V} {x : DV}, RV K F v x → RV K F' v x
  | _, _, .d h => .d (Rp.mono e h)
  | _, _, .r a => .r a
  | _, _, .t h q => .t (e _ _ h) (RVs.mono e q)
theorem RVs.mono (e : ∀ a o, F a = some o → F' a = some o) : ∀ {vs : List V} {xs : List DV}, RVs K F vs xs → RVs K F' vs xs
  | _, _, .nil => .nil
  | _, _, .cons h q => .cons (RV.mono e h) (RVs.mono e q)
end
theorem RVs.length : ∀ {vs : List V} {xs : List DV}, RVs K F vs xs → vs.length = xs.length
  | _, _, .nil => rfl
  | _, _, .cons _ q => congrArg (· + 1) (RVs.length q)
theorem RVs.append : ∀ {vs ws : List V} {xs ys : List DV}, RVs K F vs xs → RVs K F ws ys → RVs K F (vs ++ ws) (xs ++ ys)
  | _, _, _, _, .nil, h => h
  | _, _, _, _, .cons h q, k => .cons h (RVs.append q k)
theorem RVs.get : ∀ {vs : List V} {xs : List DV} {i : Nat} {v : V}, RVs K F vs xs → vs[i]? = some v → ∃ x, xs[i]? = some x ∧ RV K F v x
  | _, _, _, _, .nil, e => by simp at e
  | _, _, 0, _, .cons r _, e => by simp at e; subst e; exact ⟨_, rfl, r⟩
  | _, _, i + 1, v, .cons _ t, e => by
    obtain ⟨u, h1, h2⟩ := RVs.get (i := i) (v := v) t (by simpa using e)
    exact ⟨u, by simpa using h1, h2⟩
theorem RVs.get' : ∀ {vs : List V} {xs : List DV} {i : Nat} {x : DV}, RVs K F vs xs → xs[i]? = some x → ∃ v, vs[i]? = some v ∧ RV K F v x
  | _, _, _, _, .nil, e => by simp at e
  | _, _, 0, _, .cons r _, e => by simp at e; subst e; exact ⟨_, rfl, r⟩
  | _, _, i + 1, x, .cons _ t, e => by
    obtain ⟨u, h1, h2⟩ := RVs.get' (i := i) (x := x) t (by simpa using e)
    exact ⟨u, by simpa using h1, h2⟩
theorem RVs.take : ∀ {vs : List V} {xs : List DV} (n : Nat), RVs K F vs xs → RVs K F (vs.take n) (xs.take n)
  | _, _, 0, _ => .nil
  | _, _, _ + 1, .nil => .nil
  | _, _, n + 1, .cons r t => .cons r (RVs.take n t)
theorem RVs.drop : ∀ {vs : List V} {xs : List DV} (n : Nat), RVs K F vs xs → RVs K F (vs.drop n) (xs.drop n)
  | _, _, 0, r => r
  | _, _, _ + 1, .nil => .nil
  | _, _, n + 1, .cons _ t => RVs.drop n t
theorem RVs.set {v : V} {x : DV} (r : RV K F v x) : ∀ {vs : List V} {xs : List DV} (i : Nat), RVs K F vs xs → RVs K F (vs.set i v) (xs.set i x)
  | _, _, _, .nil => .nil
  | _, _, 0, .cons _ t => .cons r t
  | _, _, i + 1, .cons q t => .cons q (RVs.set r i t)
theorem RpAll.rvs : ∀ {vs : List V} {ds : List PyData}, RpAll K F vs ds → RVs K F vs (ds.map .d)
  | _, _, .nil => .nil
  | _, _, .cons h q => .cons (.d h) (RpAll.rvs q)
def datas : List DV → Option (List PyData)
  | [] => some []
  | .d x :: r => (datas r).map (x :: ·)
  | .r _ :: _ => none
  | .t _ :: _ => none
theorem datas_map : ∀ l : List PyData, datas (l.map .d) = some l
  | [] => rfl
  | x :: r => by simp [datas, datas_map r]
theorem datas_eq : ∀ {xs : List DV} {ds : List PyData}, datas xs = some ds → xs = ds.map .d
  | [], _, h => by cases h; rfl
  | .d x :: r, ds, h => by
    cases e : datas r with
    | none => simp [datas, e] at h
    | some l => simp [datas, e] at h; subst h; simp [← datas_eq e]
theorem RVs.all : ∀ {vs : List V} {ds : List PyData}, RVs K F vs (ds.map .d) → RpAll K F vs ds
  | _, [], h => by cases h; exact .nil
  | _, d :: ds, h => by
    cases h with
    | cons a b =>
      cases a with
      | d a => exact .cons a (RVs.all b)
theorem RE.mono (e : ∀ a o, F a = some o → F' a = some o) (h : RE K F σ ε) : RE K F' σ ε := ⟨h.1, fun i x q => let ⟨v, a, b⟩ := h.2 i x q; ⟨v, a, RV.mono e b⟩⟩
theorem RE.set {v : V} {x : DV} (h : RE K F σ ε) (r : RV K F v x) (i : Nat) : RE K F (σ.set i (some v)) (ε.set i (some x)) := by
  refine ⟨by rw [List.length_set, List.length_set]; exact h.1, fun j y q => ?_⟩
  by_cases e : i = j
  · subst e
    by_cases hl : i < ε.length
    · rw [List.getElem?_set_self hl] at q
      cases q
      exact ⟨v, by rw [List.getElem?_set_self (by rw [h.1]; exact hl)], r⟩
    · rw [List.getElem?_eq_none (by rw [List.length_set]; omega)] at q
      cases q
  · rw [List.getElem?_set_ne e] at q ⊢
    exact h.2 j y q
def wipeD (ε : Env) : List Nat → Env
  | [] => ε
  | v :: vs => (wipeD ε vs).set v none
theorem RE.setN (h : RE K F σ ε) (i : Nat) : RE K F (σ.set i none) (ε.set i none) := by
  refine ⟨by rw [List.length_set, List.length_set]; exact h.1, fun j y q => ?_⟩
  by_cases e : i = j
  · subst e
    by_cases hl : i < ε.length
    · rw [List.getElem?_set_self hl] at q
      cases q
    · rw [List.getElem?_eq_none (by rw [List.length_set]; omega)] at q
      cases q
  · rw [List.getElem?_set_ne e] at q ⊢
    exact h.2 j y q
theorem RE.wipe (h : RE K F σ ε) : ∀ vs : List Nat, RE K F (wipe σ vs) (wipeD ε vs)
  | [] => h
  | v :: vs => RE.setN (RE.wipe h vs) v
theorem MOk.mono (e : ∀ a o, F a = some o → F' a = some o) {a : Addr} (hh : H' a = H a) : ∀ {m : MO}, MOk K F H a m → MOk K F' H' a m
  | .lst _, ⟨vs, h, q⟩ => ⟨vs, hh.trans h, RVs.mono e q⟩
  | .dK _, ⟨vs, h, q⟩ => ⟨vs, hh.trans h, Paired.mapP q fun _ _ z => ⟨z.1, RV.mono e z.2⟩⟩
  | .dT _, ⟨vs, h, q⟩ => ⟨vs, hh.trans h, Paired.mapP q fun _ _ z => ⟨z.1, RV.mono e z.2⟩⟩
  | .ins _ _, ⟨dx, vs, h, q⟩ => ⟨dx, vs, hh.trans h, Paired.mapP q fun _ _ z => ⟨z.1, RV.mono e z.2⟩⟩
  | .lk _ _ _, ⟨h, q⟩ => ⟨hh.trans h, Paired.mapP q fun _ _ z => ⟨z.1, RV.mono e z.2⟩⟩
  | .xd _, ⟨vs, h, q⟩ => ⟨vs, hh.trans h, Paired.mapP q fun _ _ z => ⟨z.1, RV.mono e z.2⟩⟩
theorem MOk.some {a : Addr} {m : MO} (h : MOk K F H a m) : ∃ o, H a = some o := by
  cases m with
  | lst _ => obtain ⟨_, h, _⟩ := h; exact ⟨_, h⟩
  | dK _ => obtain ⟨_, h, _⟩ := h; exact ⟨_, h⟩
  | dT _ => obtain ⟨_, h, _⟩ := h; exact ⟨_, h⟩
  | ins _ _ => obtain ⟨_, _, h, _⟩ := h; exact ⟨_, h⟩
  | lk _ _ _ => obtain ⟨h, _⟩ := h; exact ⟨_, h⟩
  | xd _ => obtain ⟨_, h, _⟩ := h; exact ⟨_, h⟩
theorem Rs0.free (R : Rs0 K F H st) {p : Addr} (hp : H p = none) : F p = none ∧ st p = none := by
  constructor
  · cases e : F p with
    | none => rfl
    | some o => rw [(R.sub p o e).1] at hp; cases hp
  · cases e : st p with
    | none => rfl
    | some m => obtain ⟨o, q⟩ := (R.ok p m e).some; rw [hp] at q; cases q
/-- a new frozen object -/
theorem Rs0.frz (R : Rs0 K F H st) {p : Addr} {o : HO} (hp : H p = none) : Rs0 K (upd F p o) (upd H p o) st ∧ Step F H st (upd F p o) (upd H p o) st := by
  obtain ⟨f0, s0⟩ := R.free hp
  have e : ∀ a u, F a = some u → upd F p o a = some u := fun a u h => by
    rw [upd_ne (fun q => by rw [q, f0] at h; cases h)]; exact h
  have pr : ∀ a u, H a = some u → st a = none → upd H p o a = some u ∧ st a = none := fun a u h k => by
    refine ⟨?_, k⟩
    rw [upd_ne (fun q => by rw [q, hp] at h; cases h)]; exact h
  have fn : ∀ a u, upd F p o a = some u → F a ≠ none ∨ H a = none ∨ st a ≠ none ∨ ∃ ts, H a = some (.tup ts) := fun a u h => by
    by_cases q : a = p
    · subst q; exact .inr (.inl hp)
    · rw [upd_ne q] at h; exact .inl (by rw [h]; exact fun z => nomatch z)
  refine ⟨⟨fun a u h => ?_, fun a m h => ?_, R.tb.keep pr fn⟩, Step.of e pr fn⟩
  · by_cases q : a = p
    · subst q; rw [upd_same] at h ⊢; exact ⟨h, s0⟩
    · rw [upd_ne q] at h ⊢; exact R.sub a u h
  · refine MOk.mono e ?_ (R.ok a m h)
    exact upd_ne fun q => by rw [q, s0] at h; cases h
/-- a new hidden object, neither frozen nor in the store -/
theorem Rs0.hide (R : Rs0 K F H st) {p : Addr} {o : HO} (hp : H p = none) : Rs0 K F (upd H p o) st ∧ Step F H st F (upd H p o) st := by
  obtain ⟨f0, s0⟩ := R.free hp
  have pr : ∀ a u, H a = some u → st a = none → upd H p o a = some u ∧ st a = none := fun a u h k => by
    refine ⟨?_, k⟩
    rw [upd_ne (fun q => by rw [q, hp] at h; cases h)]; exact h
  refine ⟨⟨fun a u h => ?_, fun a m h => ?_, R.tb.keep pr old_F⟩, Step.of (fun _ _ h => h) pr fun a u h => .inl (by rw [h]; exact fun z => nomatch z)⟩
  · rw [upd_ne (fun q => by rw [q, f0] at h; cases h)]; exact R.sub a u h
  · refine MOk.mono (fun _ _ z => z) ?_ (R.ok a m h)
    exact upd_ne fun q => by rw [q, s0] at h; cases h
/-- a new object of the store -/
theorem Rs0.new (R : Rs0 K F H st) {p : Addr} {o : HO} {m : MO} (hp : H p = none) (hm : MOk K F (upd H p o) p m) : Rs0 K F (upd H p o) (up st p m) ∧ Step F H st F (upd H p o) (up st p m) := by
  obtain ⟨f0, s0⟩ := R.free hp
  have pr : ∀ a u, H a = some u → st a = none → upd H p o a = some u ∧ up st p m a = none := fun a u h k => by
    have q : a ≠ p := fun q => by rw [q, hp] at h; cases h
    rw [upd_ne q, up_ne q]; exact ⟨h, k⟩
  refine ⟨⟨fun a u h => ?_, fun a m' h => ?_, R.tb.keep pr old_F⟩, Step.of (fun _ _ h => h) pr fun a u h => .inl (by rw [h]; exact fun z => nomatch z)⟩
  · have q : a ≠ p := fun q => by rw [q, f0] at h; cases h
    rw [upd_ne q, up_ne q]; exact R.sub a u h
  · by_cases q : a = p
    · subst q; rw [up_same] at h; cases h; exact hm
    · rw [up_ne q] at h; exact MOk.mono (fun _ _ z => z) (upd_ne q) (R.ok a m' h)
/-- an object of the store written -/
theorem Rs0.put (R : Rs0 K F H st) {p : Addr} {o : HO} {m m0 : MO} (h0 : st p = some m0) (hm : MOk K F (upd H p o) p m) : Rs0 K F (upd H p o) (up st p m) ∧ Step F H st F (upd H p o) (up st p m) := by
  have f0 : ∀ u, F p ≠ some u := fun u h => by rw [(R.sub p u h).2] at h0; cases h0
  have pr : ∀ a u, H a = some u → st a = none → upd H p o a = some u ∧ up st p m a = none := fun a u h k => by
    have q : a ≠ p := fun q => by rw [q, h0] at k; cases k
    rw [upd_ne q, up_ne q]; exact ⟨h, k⟩
  refine ⟨⟨fun a u h => ?_, fun a m' h => ?_, R.tb.keep pr old_F⟩, Step.of (fun _ _ h => h) pr fun a u h => .inl (by rw [h]; exact fun z => nomatch z)⟩
  · have q : a ≠ p := fun q => f0 u (q ▸ h)
    rw [upd_ne q, up_ne q]; exact R.sub a u h
  · by_cases q : a = p
    · subst q; rw [up_same] at h; cases h; exact hm
    · rw [up_ne q] at h; exact MOk.mono (fun _ _ z => z) (upd_ne q) (R.ok a m' h)
/-- a hidden object written -/
theorem Rs0.hput (R : Rs0 K F H st) {p : Addr} {o : HO} (f0 : F p = none) (s0 : st p = none) (t0 : ∀ P q, (P, q) ∈ tB.T → P ≠ p) (c0 : ∀ q, H p ≠ some (LamX.CodeO p q)) : Rs0 K F (upd H p o) st := by
  refine ⟨fun a u h => ?_, fun a m' h => ?_, fun P hP => ?_⟩
  · have q : a ≠ p := fun q => by rw [q, f0] at h; cases h
    rw [upd_ne q]; exact R.sub a u h
  · have q : a ≠ p := fun q => by rw [q, s0] at h; cases h
    exact MOk.mono (fun _ _ z => z) (upd_ne q) (R.ok a m' h)
  · obtain ⟨hF, h0, ps, h1, h2, h3⟩ := R.tb P hP
    refine ⟨hF, h0, ps, by rw [upd_ne (t0 _ _ hP)]; exact h1, h2, fun pos cv hc => ?_⟩
    obtain ⟨c, e1, e2, e3⟩ := h3 pos cv hc
    exact ⟨c, e1, by rw [upd_ne (fun z => c0 P.2 (by rw [← z]; exact e2))]; exact e2, e3⟩
def Le (st st' : Sto) : Prop := ∀ a m, st a = some m → st' a = some m
theorem Le.refl (st : Sto) : Le st st := fun _ _ h => h
theorem Le.trans {a b c : Sto} (h : Le a b) (k : Le b c) : Le a c := fun x m q => k x m (h x m q)
theorem Le.up {a b : Sto} {p : Addr} {m : MO} (h : Le a b) (hp : a p = none) : Le a (up b p m) := fun x n q => by
  rw [up_ne (fun e => by rw [e, hp] at q; cases q)]; exact h x n q
theorem Le.non (h : Le st st') {a : Addr} (e : st' a = none) : st a = none := by
  cases e2 : st a with
  | none => rfl
  | some m => rw [h a m e2] at e; cases e
theorem Rs0.le (R : Rs0 K F H st') (h : Le st st') : Rs0 K F H st := ⟨fun a o q => ⟨(R.sub a o q).1, h.non (R.sub a o q).2⟩, fun a m q => R.ok a m (h a m q), R.tb.keep (fun a o e n => ⟨e, h.non n⟩) fun a o q => .inl (by rw [q]; exact fun z => (nomatch z))⟩
theorem Rs.free (R : Rs K F H st) {p : Addr} (hp : H p = none) : F p = none ∧ st p = none := R.toRs0.free hp
theorem Rs.frz (R : Rs K F H st) {p : Addr} {o : HO} (hp : H p = none) : Rs K (upd F p o) (upd H p o) st ∧ Step F H st (upd F p o) (upd H p o) st := let ⟨a, s⟩ := R.toRs0.frz hp; ⟨⟨a, Gr.cl R.gr s⟩, s⟩
theorem Rs.hide (R : Rs K F H st) {p : Addr} {o : HO} (hp : H p = none) : Rs K F (upd H p o) st ∧ Step F H st F (upd H p o) st := let ⟨a, s⟩ := R.toRs0.hide hp; ⟨⟨a, Gr.cl R.gr s⟩, s⟩
theorem Rs.new (R : Rs K F H st) {p : Addr} {o : HO} {m : MO} (hp : H p = none) (hm : MOk K F (upd H p o) p m) : Rs K F (upd H p o) (up st p m) ∧ Step F H st F (upd H p o) (up st p m) := let ⟨a, s⟩ := R.toRs0.new hp hm; ⟨⟨a, Gr.cl R.gr s⟩, s⟩
theorem Rs.put (R : Rs K F H st) {p : Addr} {o : HO} {m m0 : MO} (h0 : st p = some m0) (hm : MOk K F (upd H p o) p m) : Rs K F (upd H p o) (up st p m) ∧ Step F H st F (upd H p o) (up st p m) := let ⟨a, s⟩ := R.toRs0.put h0 hm; ⟨⟨a, Gr.cl R.gr s⟩, s⟩
theorem Step.hput {F H F' H' : Hp} {st st' : Sto} {p : Addr} {o : HO} (s : Step F H st F' H' st') (h : H p = none) : Step F H st F' (upd H' p o) st' :=
  ⟨s.ex, fun a u e n k => by
    have q : a ≠ p := fun q => by rw [q, h] at e; cases e
    rw [upd_ne q]
    exact s.pres a u e n k, s.fnew⟩
/-- a hidden object, new since an earlier state, written -/
theorem Rs.hput {F1 H1 : Hp} {st1 : Sto} (R : Rs K F1 H1 st1) {p : Addr} {o : HO} (f0 : F1 p = none) (s0 : st1 p = none) {o0 : HO} (hp1 : H1 p = some o0) (R0 : Rs K F H st) (s : Step F H st F1 H1 st1) (hp : H p = none) (pl : plainB o0 = true := by rfl) : Rs K F1 (upd H1 p o) st1 :=
  ⟨R.toRs0.hput f0 s0 (fun P q hm => R0.tb.none hp _ hm) (fun q z => by rw [hp1] at z; exact plain_co pl _ _ (Option.some.inj z)), Gr.cl R0.gr (s.hput hp)⟩
/-- an object new since then comes into the store -/
theorem Step.seen {F H F' H' : Hp} {st st' : Sto} {p : Addr} {m : MO} (s : Step F H st F' H' st') (h : H p = none) : Step F H st F' H' (up st' p m) :=
  ⟨s.ex, fun a u e n k => by
    have q : a ≠ p := fun q => by rw [q, h] at e; cases e
    rw [up_ne q]
    exact s.pres a u e n k, s.fnew⟩
/-- some of the store is forgotten -/
theorem Step.less {F H F' H' : Hp} {st st' st2 : Sto} (t : Step F H st F' H' st') (le : Le st2 st') : Step F H st F' H' st2 := ⟨t.ex, fun b o e nt n => ⟨(t.pres b o e nt n).1, le.non (t.pres b o e nt n).2⟩, t.fnew⟩
/-- by a step -/
theorem Rs.by {F1 H1 : Hp} {st1 : Sto} (R0 : Rs K F H st) (R : Rs0 K F1 H1 st1) (s : Step F H st F1 H1 st1) : Rs K F1 H1 st1 := ⟨R, Gr.cl R0.gr s⟩
end
end DL
end
section
set_option Elab.async false
set_option linter.all false
set_option maxRecDepth 100000
set_option maxHeartbeats 2000000
namespace DL
open PySem L2 PyProof.Rows
variable [tB : Tb] [gR : Gr]
abbrev TD := Env → Sto → (DV → Sto → Prop) → Prop
abbrev TDt := Env → Sto → (Bool → Sto → Prop) → Prop
abbrev TDa := Env → Sto → (List DV → Sto → Prop) → Prop
abbrev R2D := DV → DV → Sto → (DV → Sto → Prop) → Prop
abbrev R1D := DV → Sto → (DV → Sto → Prop) → Prop
abbrev RLD := List DV → Sto → (DV → Sto → Prop) → Prop
/-- what is wanted of what comes out -/
def Kg {α β : Type} (rel : Hp → α → β → Prop) (K : PySem.W.Frag) (F H : Hp) (st : Sto) (Qd : β → Sto → Prop) (Q : α → Hp → Prop) : Prop :=
  ∀ F' a H' b st', Step F H st F' H' st' → Rs K F' H' st' → rel F' a b → Qd b st' → Q a H'
def Sg {α β : Type} (rel : Hp → α → β → Prop) (K : PySem.W.Frag) (te : L2.St → Hp → (α → Hp → Prop) → Prop) (t : Env → Sto → (β → Sto → Prop) → Prop) : Prop :=
  ∀ F σ H ε st Qd Q, Rs K F H st → RE K F σ ε → t ε st Qd → Kg rel K F H st Qd Q → te σ H Q
theorem Kg.at {α β : Type} {rel : Hp → α → β → Prop} {K : PySem.W.Frag} {F H : Hp} {st : Sto} {Qd : β → Sto → Prop} {Q : α → Hp → Prop} (k : Kg rel K F H st Qd Q) {a : α} {b : β} (R : Rs K F H st) (r : rel F a b) (q : Qd b st) : Q a H :=
  k F a H b st (Step.refl _ _ _) R r q
omit gR in
theorem Rs0.tr {K : PySem.W.Frag} {F H : Hp} {st : Sto} (R : Rs0 K F H st) : @Rs _ Gr.tr K F H st := ⟨R, True.intro⟩
omit gR in
theorem Rs0.of {K : PySem.W.Frag} {F H : Hp} {st : Sto} (R : @Rs _ Gr.tr K F H st) : Rs0 K F H st := R.toRs0
theorem Kg.tr {α β : Type} {rel : Hp → α → β → Prop} {K : PySem.W.Frag} {F H : Hp} {st : Sto} {Qd : β → Sto → Prop} {Q : α → Hp → Prop} (k : Kg rel K F H st Qd Q) (R : Rs K F H st) : @Kg _ Gr.tr α β rel K F H st Qd Q :=
  fun F' a H' b st' s R' r q => k F' a H' b st' s (R.by (Rs0.of R') s) r q
abbrev relT : Hp → Bool → Bool → Prop := fun _ a b => a = b
structure DE (X : Cx) (e : Expr) (t : TD) : Prop where
  ex : ∃ te, PE X e te ∧ Sg (RV X.K) X.K te t
structure DT (X : Cx) (e : Expr) (t : TDt) : Prop where
  ex : ∃ te, PT X e te ∧ Sg relT X.K te t
structure DW (X : Cx) (e : Expr) (t : TDt) : Prop where
  ex : ∃ te, PW X e te ∧ Sg relT X.K te t
structure DA (X : Cx) (es : List Expr) (t : TDa) : Prop where
  ex : ∃ te, PA X es te ∧ Sg (RVs X.K) X.K te t
/-- two values in, one out -/
def S2 (K : PySem.W.Frag) (r' : R2) (r : R2D) : Prop := ∀ F H st v w x y Qd Q, Rs K F H st → RV K F v x → RV K F w y → r x y st Qd → Kg (RV K) K F H st Qd Q → r' v w H Q
def S1 (K : PySem.W.Frag) (r' : V → Hp → VK → Prop) (r : R1D) : Prop := ∀ F H st v x Qd Q, Rs K F H st → RV K F v x → r x st Qd → Kg (RV K) K F H st Qd Q → r' v H Q
def SL (K : PySem.W.Frag) (r' : List V → Hp → VK → Prop) (r : RLD) : Prop := ∀ F H st vs xs Qd Q, Rs K F H st → RVs K F vs xs → r xs st Qd → Kg (RV K) K F H st Qd Q → r' vs H Q
/-- the context of a piece of a def's body -/
structure Cok (P : Program) (w : World) (K : PySem.W.Frag) (mg : Str → Option Value) (base : Heap) (X : Cx) (N : List Str) (sc fs : Scope) (k : Nat) : Prop where
  hP : X.prog = P
  hw : X.w = w
  hK : X.K = K
  hmg : X.mg = mg
  hb : X.base = base
  hN : X.N = N
  nd : N.Nodup
  kind : sc.kind = .function
  hs : X.env.scope = sc
  calm : X.calm = true
  fn : ∀ x, fs.names.lookup x = some .cell → X.fn x = true
  room : Room k X.A
  pass : PassesOwn (model X.prog X.w) X.A X.env X.xe
section
variable {P : Program} {w : World} {K : PySem.W.Frag} {mg : Str → Option Value} {base : Heap} {X : Cx} {N : List Str} {sc fs : Scope} {k : Nat}
def visB (N : List Str) (sc : Scope) (i : Nat) (x : Str) : Bool :=
  decide (N[i]? = some x) && (match sc.names.lookup x with | some .local => true | some .cell => true | some .free => true | _ => false) && !(x == ("__debug__" : Str)) && !(x == ("__classdict__" : Str))
def locB (N : List Str) (sc fs : Scope) (i : Nat) (x : Str) : Bool :=
  decide (N[i]? = some x) && (match sc.names.lookup x with | some .local => true | some .cell => (match fs.names.lookup x with | some .cell => true | _ => false) | _ => false)
def glB (sc : Scope) (x : Str) : Bool := (match sc.names.lookup x with | some .globalImplicit => true | _ => false) && !(x == ("__debug__" : Str)) && !(x == ("__name__" : Str))
def qv (i : Nat) : TD := fun ε st Q => match ε[i]? with | some (some x) => Q x st | _ => False
theorem de_var {i : Nat} {x : Str} {pos : Pos} (c : Cok P w K mg base X N sc fs k) (h : visB N sc i x = true) : DE X (.Name x pos) (qv i) := by
  unfold visB at h
  simp only [Bool.and_eq_true, decide_eq_true_eq, Bool.not_eq_true'] at h
  obtain ⟨⟨⟨h1, h2⟩, h3⟩, h4⟩ := h
  refine ⟨⟨tVar i, pe_var (by rw [c.hN]; exact h1) ?_ h3 h4, fun F σ H ε st Qd Q R E q kk => ?_⟩⟩
  · unfold Vis
    rw [c.hs]
    split at h2 <;> first | exact .inl (by assumption) | exact .inr (.inl (by assumption)) | exact .inr (.inr (by assumption)) | cases h2
  · unfold qv at q
    split at q
    · rename_i x e
      obtain ⟨v, e2, r⟩ := E.2 i x e
      exact ⟨v, e2, kk.at R r q⟩
    · exact q.elim
def qc (x : DV) : TD := fun _ st Q => Q x st
theorem de_int {i j pos} : DE X (.Constant (.int i) j pos) (qc (.d (.int i))) := ⟨⟨_, pe_int, fun F σ H ε st Qd Q R E q kk => kk.at R (.d (.int i)) q⟩⟩
theorem de_bl {b j pos} : DE X (.Constant (.bool b) j pos) (qc (.d (.bool b))) := ⟨⟨_, pe_bl, fun F σ H ε st Qd Q R E q kk => kk.at R (.d (.bl b)) q⟩⟩
theorem de_non {j pos} : DE X (.Constant .none j pos) (qc (.d .none)) := ⟨⟨_, pe_non, fun F σ H ε st Qd Q R E q kk => kk.at R (.d .non) q⟩⟩
theorem de_str {x j pos} : DE X (.Constant (.str x) j pos) (qc (.d (.str x))) := ⟨⟨_, pe_str, fun F σ H ε st Qd Q R E q kk => kk.at R (.d (.str x)) q⟩⟩
theorem Sg.bin {α β γ δ ξ ζ : Type} {rel1 : Hp → α → β → Prop} {rel2 : Hp → γ → δ → Prop} {rel3 : Hp → ξ → ζ → Prop} {ta : L2.St → Hp → (α → Hp → Prop) → Prop} {tb : L2.St → Hp → (γ → Hp → Prop) → Prop}
    {da : Env → Sto → (β → Sto → Prop) → Prop} {db : Env → Sto → (δ → Sto → Prop) → Prop} {r' : α → γ → Hp → (ξ → Hp → Prop) → Prop} {r : β → δ → Sto → (ζ → Sto → Prop) → Prop}
    (sa : Sg rel1 K ta da) (sb : Sg rel2 K tb db) (mono : ∀ F F' a b, (∀ x o, F x = some o → F' x = some o) → rel1 F a b → rel1 F' a b)
    (hs : ∀ F H st v w x y Qd Q, Rs K F H st → rel1 F v x → rel2 F w y → r x y st Qd → Kg rel3 K F H st Qd Q → r' v w H Q) :
    Sg rel3 K (fun σ H Q => ta σ H fun x H1 => tb σ H1 fun y H2 => r' x y H2 Q) (fun ε st Q => da ε st fun x s1 => db ε s1 fun y s2 => r x y s2 Q) := by
  intro F σ H ε st Qd Q R E h kk
  refine sa F σ H ε st _ _ R E h fun F1 v H1 x s1 t1 R1 rv q => ?_
  refine sb F1 σ H1 ε s1 _ _ R1 (E.mono t1.ex) q fun F2 u H2 y s2 t2 R2 ru q2 => ?_
  exact hs F2 H2 s2 v u x y _ _ R2 (mono _ _ _ _ t2.ex rv) ru q2 fun F3 z H3 z' s3 t3 R3 rz q3 => kk F3 z H3 z' s3 ((t1.trans t2).trans t3) R3 rz q3
def qOp (r : R2D) (ta tb : TD) : TD := fun ε st Q => ta ε st fun x s1 => tb ε s1 fun y s2 => r x y s2 Q
theorem de_op {op : Operator} {a b : Expr} {pos : Pos} {ta tb : TD} {r' : R2} {r : R2D} (ho : OpR X (binaryOp op) r') (hs : S2 X.K r' r) (ha : DE X a ta) (hb : DE X b tb) : DE X (.BinOp a op b pos) (qOp r ta tb) := by
  obtain ⟨te, pa, sa⟩ := ha
  obtain ⟨tf, pb, sb⟩ := hb
  exact ⟨⟨_, pe_op ho pa pb, Sg.bin sa sb (fun _ _ _ _ e h => RV.mono e h) hs⟩⟩
theorem de_cmp {op : CmpOp} {a b : Expr} {pos : Pos} {ta tb : TD} {r' : R2} {r : R2D} (ho : OpR X (compareOp op) r') (hs : S2 X.K r' r) (hm : behindInMarks op b = false) (ha : DE X a ta) (hb : DE X b tb) : DE X (.Compare a [op] [b] pos) (qOp r ta tb) := by
  obtain ⟨te, pa, sa⟩ := ha
  obtain ⟨tf, pb, sb⟩ := hb
  exact ⟨⟨_, pe_cmpR ho pa pb hm, Sg.bin sa sb (fun _ _ _ _ e h => RV.mono e h) hs⟩⟩
def qUn (r : R1D) (ta : TD) : TD := fun ε st Q => ta ε st fun x s1 => r x s1 Q
theorem Sg.go {α β γ δ : Type} {rel1 : Hp → α → β → Prop} {rel3 : Hp → γ → δ → Prop} {ta : L2.St → Hp → (α → Hp → Prop) → Prop} {da : Env → Sto → (β → Sto → Prop) → Prop} {F H : Hp} {σ : L2.St} {ε : Env} {st : Sto} {G : β → Sto → Prop} {W : α → Hp → Prop}
    {Qd : δ → Sto → Prop} {Q : γ → Hp → Prop} (sa : Sg rel1 K ta da) (R : Rs K F H st) (E : RE K F σ ε) (h : da ε st G) (kk : Kg rel3 K F H st Qd Q)
    (hs : ∀ F1 H1 s1 v x, Rs K F1 H1 s1 → RE K F1 σ ε → rel1 F1 v x → G x s1 → Kg rel3 K F1 H1 s1 Qd Q → W v H1) : ta σ H W := by
  refine sa F σ H ε st _ _ R E h fun F1 v H1 x s1 t1 R1 rv q => ?_
  exact hs F1 H1 s1 v x R1 (E.mono t1.ex) rv q fun F3 z H3 z' s3 t3 R3 rz q3 => kk F3 z H3 z' s3 (t1.trans t3) R3 rz q3
theorem de_un {op : UnaryOp} {a : Expr} {pos : Pos} {ta : TD} {r' : V → Hp → VK → Prop} {r : R1D} (ho : UnR X (unaryOp op) r') (hs : S1 X.K r' r) (ha : DE X a ta) : DE X (.UnaryOp op a pos) (qUn r ta) := by
  obtain ⟨te, pa, sa⟩ := ha
  exact ⟨⟨_, pe_un ho pa, fun F σ H ε st Qd Q R E h kk => sa.go R E h kk fun F1 H1 s1 v x R1 E1 rv q kk => hs F1 H1 s1 v x _ _ R1 rv q kk⟩⟩
def onB (Q : Bool → Sto → Prop) : DV → Sto → Prop
  | .d (.bool b), s => Q b s
  | _, _ => False
theorem onB_out {Q : Bool → Sto → Prop} {x : DV} {s : Sto} (h : onB Q x s) : ∃ b, x = .d (.bool b) ∧ Q b s := by
  unfold onB at h
  split at h
  · exact ⟨_, rfl, h⟩
  · exact h.elim
def qTest (ta : TD) : TDt := fun ε st Q => ta ε st (onB Q)
theorem dt_val {e : Expr} {ta : TD} (ha : DE X e ta) (he : ∀ whole, isTrue e X.env whole = (do let v ← whole; standAt e.pos; holding [v] (truthy v)) := by intro _; rfl) : DT X e (qTest ta) := by
  obtain ⟨te, pa, sa⟩ := ha
  refine ⟨⟨_, pt_val pa he, fun F σ H ε st Qd Q R E h kk => sa.go R E h kk fun F1 H1 s1 v x R1 E1 rv q kk => ?_⟩⟩
  obtain ⟨b, e, q⟩ := onB_out q
  subst e
  cases rv with
  | d rv => cases rv; exact ⟨b, rfl, kk.at R1 rfl q⟩
def qNotT (t : TDt) : TDt := fun ε st Q => t ε st fun b s1 => Q (!b) s1
theorem dt_not {a : Expr} {pos : Pos} {t : TDt} (ha : DT X a t) : DT X (.UnaryOp .Not a pos) (qNotT t) := by
  obtain ⟨te, pa, sa⟩ := ha
  refine ⟨⟨_, pt_not pa, fun F σ H ε st Qd Q R E h kk => sa.go R E h kk fun F1 H1 s1 v x R1 E1 rv q kk => ?_⟩⟩
  cases rv
  exact kk.at R1 rfl q
def qAndT (t u : TDt) : TDt := fun ε st Q => t ε st fun b s1 => if b = true then u ε s1 Q else Q false s1
def qOrT (t u : TDt) : TDt := fun ε st Q => t ε st fun b s1 => if b = true then Q true s1 else u ε s1 Q
theorem DW.pt {e : Expr} {t : TDt} (h : DW X e t) : DT X e t := let ⟨te, p, s⟩ := h.ex; ⟨⟨te, p.pt, s⟩⟩
theorem dw_and1 {a : Expr} {pos : Pos} {t : TDt} (ha : DT X a t) : DW X (.BoolOp .And [a] pos) t := let ⟨te, p, s⟩ := ha.ex; ⟨⟨te, pw_and1 p, s⟩⟩
theorem dw_or1 {a : Expr} {pos : Pos} {t : TDt} (ha : DT X a t) : DW X (.BoolOp .Or [a] pos) t := let ⟨te, p, s⟩ := ha.ex; ⟨⟨te, pw_or1 p, s⟩⟩
theorem dw_and {a b : Expr} {rest : List Expr} {pos : Pos} {t u : TDt} (ha : DT X a t) (hb : DW X (.BoolOp .And (b :: rest) pos) u) : DW X (.BoolOp .And (a :: b :: rest) pos) (qAndT t u) := by
  obtain ⟨te, pa, sa⟩ := ha
  obtain ⟨tf, pb, sb⟩ := hb
  refine ⟨⟨_, pw_and pa pb, fun F σ H ε st Qd Q R E h kk => ?_⟩⟩
  refine sa F σ H ε st _ _ R E h fun F1 v H1 x s1 t1 R1 rv q => ?_
  cases rv
  cases v with
  | true => exact sb F1 σ H1 ε s1 _ _ R1 (E.mono t1.ex) q fun F3 z H3 z' s3 t3 R3 rz q3 => kk F3 z H3 z' s3 (t1.trans t3) R3 rz q3
  | false => exact kk F1 _ H1 _ s1 t1 R1 rfl q
theorem dw_or {a b : Expr} {rest : List Expr} {pos : Pos} {t u : TDt} (ha : DT X a t) (hb : DW X (.BoolOp .Or (b :: rest) pos) u) : DW X (.BoolOp .Or (a :: b :: rest) pos) (qOrT t u) := by
  obtain ⟨te, pa, sa⟩ := ha
  obtain ⟨tf, pb, sb⟩ := hb
  refine ⟨⟨_, pw_or pa pb, fun F σ H ε st Qd Q R E h kk => ?_⟩⟩
  refine sa F σ H ε st _ _ R E h fun F1 v H1 x s1 t1 R1 rv q => ?_
  cases rv
  cases v with
  | false => exact sb F1 σ H1 ε s1 _ _ R1 (E.mono t1.ex) q fun F3 z H3 z' s3 t3 R3 rz q3 => kk F3 z H3 z' s3 (t1.trans t3) R3 rz q3
  | true => exact kk F1 _ H1 _ s1 t1 R1 rfl q
/-- and, or, not as values -/
def qAndV (ta tb : TD) : TD := fun ε st Q => ta ε st (onB fun b s1 => if b = true then tb ε s1 Q else Q (.d (.bool false)) s1)
def qOrV (ta tb : TD) : TD := fun ε st Q => ta ε st (onB fun b s1 => if b = true then Q (.d (.bool true)) s1 else tb ε s1 Q)
def qNotV (ta : TD) : TD := fun ε st Q => ta ε st (onB fun b s1 => Q (.d (.bool (!b))) s1)
theorem de_one {op} {a : Expr} {pos : Pos} {t : TD} (h : DE X a t) : DE X (.BoolOp op [a] pos) t := let ⟨te, p, s⟩ := h.ex; ⟨⟨te, pe_one p, s⟩⟩
theorem de_and {a b : Expr} {rest : List Expr} {pos : Pos} {ta tb : TD} (ha : DE X a ta) (hb : DE X (.BoolOp .And (b :: rest) pos) tb) : DE X (.BoolOp .And (a :: b :: rest) pos) (qAndV ta tb) := by
  obtain ⟨te, pa, sa⟩ := ha
  obtain ⟨tf, pb, sb⟩ := hb
  refine ⟨⟨_, pe_and pa pb, fun F σ H ε st Qd Q R E h kk => ?_⟩⟩
  refine sa F σ H ε st _ _ R E h fun F1 v H1 x s1 t1 R1 rv q => ?_
  obtain ⟨b, rfl, q⟩ := onB_out q
  cases rv with
  | d rv =>
    cases rv
    refine ⟨b, rfl, ?_⟩
    cases b with
    | true => exact sb F1 σ H1 ε s1 _ _ R1 (E.mono t1.ex) q fun F3 z H3 z' s3 t3 R3 rz q3 => kk F3 z H3 z' s3 (t1.trans t3) R3 rz q3
    | false => exact kk F1 _ H1 _ s1 t1 R1 (.d (.bl false)) q
def qIf (t : TDt) (ta tb : TD) : TD := fun ε st Q => t ε st fun b s1 => if b = true then ta ε s1 Q else tb ε s1 Q
theorem de_if {c a b : Expr} {pos : Pos} {t : TDt} {ta tb : TD} (hc : DT X c t) (ha : DE X a ta) (hb : DE X b tb) : DE X (.IfExp c a b pos) (qIf t ta tb) := by
  obtain ⟨tc, pc, sc'⟩ := hc
  obtain ⟨te, pa, sa⟩ := ha
  obtain ⟨tf, pb, sb⟩ := hb
  refine ⟨⟨_, pe_ifExp pc pa pb, fun F σ H ε st Qd Q R E h kk => ?_⟩⟩
  refine sc' F σ H ε st _ _ R E h fun F1 v H1 x s1 t1 R1 rv q => ?_
  cases rv
  cases v with
  | true => exact sa F1 σ H1 ε s1 _ _ R1 (E.mono t1.ex) q fun F3 z H3 z' s3 t3 R3 rz q3 => kk F3 z H3 z' s3 (t1.trans t3) R3 rz q3
  | false => exact sb F1 σ H1 ε s1 _ _ R1 (E.mono t1.ex) q fun F3 z H3 z' s3 t3 R3 rz q3 => kk F3 z H3 z' s3 (t1.trans t3) R3 rz q3
/-- a < b < c -/
def qChain (r r2 : R2D) (ta tb tc : TD) : TD := fun ε st Q => ta ε st fun x s1 => tb ε s1 fun y s2 => r x y s2 (onB fun b s3 => if b = true then tc ε s3 fun u s4 => r2 y u s4 Q else Q (.d (.bool false)) s3)
theorem chain_sim {r1 r2 : R2} {d1 d2 : R2D} {te tf tg : TE} {ta tb tc : TD} (h1 : S2 K r1 d1) (h2 : S2 K r2 d2) (sa : Sg (RV K) K te ta) (sb : Sg (RV K) K tf tb) (sc' : Sg (RV K) K tg tc) : Sg (RV K) K (tChain r1 r2 te tf tg) (qChain d1 d2 ta tb tc) := by
  intro F σ H ε st Qd Q R E h kk
  refine sa F σ H ε st _ _ R E h fun F1 v H1 x s1 t1 R1 rv q => ?_
  refine sb F1 σ H1 ε s1 _ _ R1 (E.mono t1.ex) q fun F2 u H2 y s2 t2 R2 ru q2 => ?_
  refine h1 F2 H2 s2 v u x y _ _ R2 (rv.mono t2.ex) ru q2 fun F3 z H3 z' s3 t3 R3 rz q3 => ?_
  obtain ⟨b, rfl, q3⟩ := onB_out q3
  cases rz with
  | d rz =>
    cases rz
    refine ⟨b, rfl, ?_⟩
    have t123 := (t1.trans t2).trans t3
    cases b with
    | true =>
      refine sc' F3 σ H3 ε s3 _ _ R3 (E.mono t123.ex) q3 fun F4 a4 H4 b4 s4 t4 R4 r4 q4 => ?_
      exact h2 F4 H4 s4 u a4 y b4 _ _ R4 (ru.mono (t3.trans t4).ex) r4 q4 fun F5 z H5 z' s5 t5 R5 rz q5 => kk F5 z H5 z' s5 ((t123.trans t4).trans t5) R5 rz q5
    | false => exact kk F3 _ H3 _ s3 t123 R3 (.d (.bl false)) q3
def qNil : TDa := fun _ st Q => Q [] st
def qCons (ta : TD) (tr : TDa) : TDa := fun ε st Q => ta ε st fun x s1 => tr ε s1 fun xs s2 => Q (x :: xs) s2
theorem da_nil : DA X [] qNil := ⟨⟨_, pa_nil, fun F σ H ε st Qd Q R E q kk => kk.at R .nil q⟩⟩
theorem da_cons {e : Expr} {es : List Expr} {t : TD} {u : TDa} (h : DE X e t) (hr : DA X es u) (hs : starEach (e :: es) X.env = (false, eval e X.env) :: starEach es X.env := by rfl) : DA X (e :: es) (qCons t u) := by
  obtain ⟨te, pa, sa⟩ := h
  obtain ⟨tf, pb, sb⟩ := hr
  exact ⟨⟨_, pa_cons pa pb hs, Sg.bin (r' := fun x xs H Q => Q (x :: xs) H) (r := fun x xs st Q => Q (x :: xs) st) sa sb (fun _ _ _ _ e h => RV.mono e h) fun F H st v w x y Qd Q R rv rw q kk => kk.at R (.cons rv rw) q⟩⟩
theorem Rs.ex (F H : Hp) (st : Sto) (R : Rs K F H st) : ∀ a o, F a = some o → H a = some o := fun a o h => (R.sub a o h).1
def mkT (xs : List DV) : DV := match datas xs with | some ds => .d (.tuple ds) | none => .t xs
theorem mkT_rv {F : Hp} {vs : List V} {xs : List DV} {p : Addr} (h : F p = some (.tup vs)) (r : RVs K F vs xs) : RV K F (.ref p) (mkT xs) := by
  unfold mkT
  cases e : datas xs with
  | some ds =>
    have e2 := datas_eq e
    subst e2
    exact .d (.tup h r.all)
  | none => exact .t h r
/-- a new tuple -/
theorem new_tup {F H : Hp} {st : Sto} {vs : List V} {xs : List DV} {p : Addr} {Qd : DV → Sto → Prop} {Q : VK} (R : Rs K F H st) (r : RVs K F vs xs) (hp : H p = none) (q : Qd (mkT xs) st) (kk : Kg (RV K) K F H st Qd Q) : Q (.ref p) (upd H p (.tup vs)) := by
  obtain ⟨R', t⟩ := R.frz (o := .tup vs) hp
  exact kk _ _ _ _ _ t R' (mkT_rv upd_same (r.mono t.ex)) q
/-- a new list: tracked (m) or frozen -/
def newL (m : Bool) (xs : List DV) (st : Sto) (Q : DV → Sto → Prop) : Prop := match m with
  | true => ∀ p, st p = none → Q (.r p) (up st p (.lst xs))
  | false => match datas xs with | some ds => Q (.d (.list ds)) st | none => False
theorem new_lst {F H : Hp} {st : Sto} {vs : List V} {xs : List DV} {m : Bool} {p : Addr} {Qd : DV → Sto → Prop} {Q : VK} (R : Rs K F H st) (r : RVs K F vs xs) (hp : H p = none) (q : newL m xs st Qd) (kk : Kg (RV K) K F H st Qd Q) : Q (.ref p) (upd H p (.lst vs)) := by
  cases m with
  | true =>
    obtain ⟨R', t⟩ := R.new (o := .lst vs) (m := .lst xs) hp ⟨vs, upd_same, r⟩
    exact kk _ _ _ _ _ t R' (.r p) (q p (R.free hp).2)
  | false =>
    unfold newL at q
    simp only at q
    split at q
    rotate_left
    · exact q.elim
    rename_i ds ed
    have ed2 := datas_eq ed
    subst ed2
    obtain ⟨R', t⟩ := R.frz (o := .lst vs) hp
    exact kk _ _ _ _ _ t R' (.d (.lst (SqL.of upd_same) (r.mono t.ex).all)) q
def qTup (t : TDa) : TD := fun ε st Q => t ε st fun xs s1 => xs.length ≤ sizeLine ∧ Q (mkT xs) s1
def qLst (m : Bool) (t : TDa) : TD := fun ε st Q => t ε st fun xs s1 => xs.length ≤ sizeLine ∧ newL m xs s1 Q
theorem de_tup {es : List Expr} {j : Nat} {pos : Pos} {t : TDa} (h : DA X es t) : DE X (.Tuple es j pos) (qTup t) := by
  obtain ⟨te, pa, sa⟩ := h
  refine ⟨⟨_, pe_tup pa, fun F σ H ε st Qd Q R E h kk => sa.go R E h kk fun F1 H1 s1 v x R1 E1 rv q kk => ?_⟩⟩
  exact ⟨by rw [rv.length]; exact q.1, fun p hp => new_tup R1 rv hp q.2 kk⟩
theorem de_lst {es : List Expr} {pos : Pos} {t : TDa} (m : Bool) (h : DA X es t) : DE X (.List es pos) (qLst m t) := by
  obtain ⟨te, pa, sa⟩ := h
  refine ⟨⟨_, pe_lst pa, fun F σ H ε st Qd Q R E h kk => sa.go R E h kk fun F1 H1 s1 v x R1 E1 rv q kk => ?_⟩⟩
  exact ⟨by rw [rv.length]; exact q.1, fun p hp => new_lst R1 rv hp q.2 kk⟩
end
end DL
end
section
set_option Elab.async false
set_option linter.all false
set_option maxRecDepth 100000
set_option maxHeartbeats 4000000
namespace DL
open PySem L2 PyProof.Rows HT
section
variable {prog : Program} {w : World} {A : Around} {E : Value → Shared → Prop} {s : Shared}
theorem tuple_mul_same (l : Addr) (items : Array Value) (n : Nat) (dd : Option Addr) (sl : Array (Option Value)) (x : Int) (u : Tok) (c0 : (decide (x < -(2 ^ 63)) || decide (x ≥ 2 ^ 63)) = false) (c1 : (items.isEmpty || x == 1) = true) :
    Meets (Builtin.«tuple.__mul__» ⟨[.ref l, .int x u], []⟩) (fun _ R s => s.heap.get? l = some { cls := .type "tuple", dict := dd, data := .seq items n, slots := sl } ∧ R (.ok (.ret (Value.ref l))) s) :=
  .of_wp fun prog w A R s h => by
    obtain ⟨hp, g, d, tk, os⟩ := s
    obtain ⟨hl, h⟩ := h
    have f1 := AutoSeq1.idx_int
    wp_walk using wpAny_loadPart' hl
    repeat (first
      | (refine wpAny_ite_false (decide_eq_false (by rw [c0]; exact Bool.false_ne_true)) ?_; wp_walk using wpAny_loadPart' hl)
      | (refine wpAny_ite_true (decide_eq_true c1) ?_; wp_walk using wpAny_loadPart' hl))
    all_goals exact ⟨_, rfl, h⟩
theorem tuple_mul_none (l : Addr) (items : Array Value) (n : Nat) (dd : Option Addr) (sl : Array (Option Value)) (x : Int) (u : Tok) (c0 : (decide (x < -(2 ^ 63)) || decide (x ≥ 2 ^ 63)) = false) (c1 : (items.isEmpty || x == 1) = false) (c2 : (decide (x ≤ 0) || items.isEmpty) = true) :
    Meets (Builtin.«tuple.__mul__» ⟨[.ref l, .int x u], []⟩) (fun _ R s => s.heap.get? l = some { cls := .type "tuple", dict := dd, data := .seq items n, slots := sl } ∧ R (.ok (.ret (Value.ref s.heap.objs.size))) { s with heap := s.heap.push { cls := Value.type "tuple", data := Data.seq #[] }, toks := s.toks }) :=
  .of_wp fun prog w A R s h => by
    obtain ⟨hp, g, d, tk, os⟩ := s
    obtain ⟨hl, h⟩ := h
    have f1 := AutoSeq1.idx_int
    wp_walk using wpAny_loadPart' hl
    repeat (first
      | (refine wpAny_ite_false (decide_eq_false (by rw [c0]; exact Bool.false_ne_true)) ?_; wp_walk using wpAny_loadPart' hl)
      | (refine wpAny_ite_false (decide_eq_false (by rw [c1]; exact Bool.false_ne_true)) ?_; wp_walk using wpAny_loadPart' hl)
      | (refine wpAny_ite_true (decide_eq_true c2) ?_; wp_walk using wpAny_loadPart' hl))
    all_goals exact ⟨_, rfl, h⟩
end
section
variable {X : Cx}
theorem OpR.or2 {f : Value → Value → Sem Value} {r r' : R2} (h : OpR X f r) (h' : OpR X f r') : OpR X f (fun x y H Q => r x y H Q ∨ r' x y H Q) := by
  intro pins s σ H x y v u Q I rx ry q
  rcases q with q | q
  · exact h pins s σ H x y v u Q I rx ry q
  · exact h' pins s σ H x y v u Q I rx ry q
def rRepA (K : PySem.W.Frag) : R2 := fun x y H Q => ∃ l k xs, x = .ref l ∧ y = .int k ∧ SqT K H l xs ∧ xs ≠ [] ∧ k ≤ 1000 ∧ -1000 ≤ k ∧ xs.length ≤ 1000 ∧ (k = 1 → Q (.ref l) H) ∧ (k ≠ 1 → ∀ p, H p = none → Q (.ref p) (upd H p (.tup (List.replicate k.toNat xs).flatten)))
theorem op_repA : OpR X (binaryOp .Mult) (rRepA X.K) := by
  intro pins s σ H x y v u Q I rx ry h
  obtain ⟨l, k, xs, rfl, rfl, hT, hne, h2, h1, hz, q1, q⟩ := h
  by_cases h3 : 2 ≤ k
  · exact op_repT pins s σ H _ _ v u Q I rx ry ⟨l, k, xs, rfl, rfl, hT, hne, h3, h2, hz, q (by omega)⟩
  cases rx
  obtain ⟨t, rfl⟩ := ry
  obtain ⟨its, r, ⟨⟨cls, dd, data, sl⟩, ho, hc, n, hd⟩, hs⟩ := I.tuple hT
  simp only at hc hd
  subst hc hd
  have hn : its ≠ [] := fun e => hne (by
    have hle : its.length = xs.length := r.length.symm
    rw [e] at hle
    exact List.eq_nil_of_length_eq_zero hle.symm)
  have hi : its.toArray.isEmpty = false := by
    cases its with
    | nil => exact absurd rfl hn
    | cons a b => rfl
  have c0 : (decide (k < -(2 ^ 63)) || decide (k ≥ 2 ^ 63)) = false := by
    rw [decide_eq_false (by omega), decide_eq_false (by omega)] <;> rfl
  by_cases h4 : k = 1
  · subst h4
    exact wpAny_binaryOp_repeat_ref (T := "tuple") (U := "int") (by decide) ⟨_, ho, rfl⟩ (fun s' => typeIs_int s' 1 t) noFill_tuple_mul F.fills_int_mul F.slot_int_rmul repeat_tuple F.slot_int_index.lookup
      (call_meets F.slot_int_rmul (typeIs_int s 1 t) F.entry_int_rmul (F.args_int_rmul_2 _ _) (int_rmul_tuple 1 t l its.toArray n dd sl)
        ⟨ho, rfl, ⟨_, ho, rfl⟩, call_meets F.slot_tuple_mul ⟨_, ho, rfl⟩ F.entry_tuple_mul (F.args_tuple_mul_2 _ _) (tuple_mul_same l its.toArray n dd sl 1 t c0 (by rw [hi]; rfl)) ⟨ho, ⟨.ref l, H, I, rfl, q1 rfl⟩⟩⟩)
  · have c1 : (its.toArray.isEmpty || k == 1) = false := by
      rw [hi, Bool.false_or]
      exact beq_eq_false_iff_ne.mpr h4
    have c2 : (decide (k ≤ 0) || its.toArray.isEmpty) = true := by
      rw [decide_eq_true (by omega)] <;> rfl
    refine wpAny_binaryOp_repeat_ref (T := "tuple") (U := "int") (by decide) ⟨_, ho, rfl⟩ (fun s' => typeIs_int s' k t) noFill_tuple_mul F.fills_int_mul F.slot_int_rmul repeat_tuple F.slot_int_index.lookup
      (call_meets F.slot_int_rmul (typeIs_int s k t) F.entry_int_rmul (F.args_int_rmul_2 _ _) (int_rmul_tuple k t l its.toArray n dd sl)
        ⟨ho, rfl, ⟨_, ho, rfl⟩, call_meets F.slot_tuple_mul ⟨_, ho, rfl⟩ F.entry_tuple_mul (F.args_tuple_mul_2 _ _) (tuple_mul_none l its.toArray n dd sl k t c0 c1 c2) ⟨ho, ?_⟩⟩)
    have e0 : k.toNat = 0 := by omega
    have q' := q h4
    rw [e0] at q'
    refine ⟨.ref s.heap.objs.size, _, I.laid (t' := s.toks) (o := .tup []) (fun b ob q => Heap.get?_push_of_some _ q) (Nat.le_refl _) ?_, rfl, q' _ (I.hok.fresh (Nat.le_refl _))⟩
    exact ⟨Nat.zero_le _, [], .nil, IsTup.new _ _⟩
def rCatL (K : PySem.W.Frag) : R2 := fun x y H Q => ∃ l b xs zs, x = .ref l ∧ y = .ref b ∧ SqL K H l xs ∧ SqL K H b zs ∧ xs.length + zs.length ≤ sizeLine ∧ ∀ p, H p = none → Q (.ref p) (upd H p (.lst (xs ++ zs)))
theorem op_catL : OpR X (binaryOp .Add) (rCatL X.K) := by
  intro pins s σ H x y v u Q I rx ry h
  obtain ⟨l, b, xs, zs, rfl, rfl, hH, hB, hz, q⟩ := h
  cases rx
  cases ry
  obtain ⟨its, r, ⟨⟨cls, dd, data, sl⟩, n, ho, hc, hd0, hd⟩, hs⟩ := I.list hH
  obtain ⟨its2, r2, ⟨⟨cls2, dd2, data2, sl2⟩, n2, ho2, hc2, hd02, hd2⟩, hs2⟩ := I.list hB
  simp only at hc hd hc2 hd2
  subst hc hd hc2 hd2
  have hlen := r.length
  have hlen2 := r2.length
  have e : its.toArray ++ its2.toArray = (its ++ its2).toArray := by simp
  refine concat_meets ⟨_, ho, rfl⟩ ⟨_, ho2, rfl⟩ noFill_list_add seq_list_add PySem.F.slot_list_add PySem.F.entry_list_add (PySem.F.args_list_add_2 _ _) (list_addW l b its.toArray its2.toArray n n2 dd dd2 sl sl2 (by simp only [List.size_toArray]; omega)) ⟨ho, ho2, ?_⟩
  rw [e]
  exact ⟨.ref _, _, I.lnew (t' := s.toks) (r.append r2) (by rw [List.length_append]; omega), rfl, q _ I.fresh⟩
end
end DL
end
section
set_option Elab.async false
set_option linter.all false
set_option maxRecDepth 100000
set_option maxHeartbeats 4000000
namespace DL
open PySem L2 PyProof.Rows
variable [tB : Tb] [gR : Gr]
def titems : DV → Option (List DV)
  | .d (.tuple xs) => some (xs.map .d)
  | .t xs => some xs
  | _ => none
def litems (st : Sto) : DV → Option (List DV)
  | .d (.list xs) => some (xs.map .d)
  | .r a => match st a with | some (.lst xs) => some xs | _ => none
  | _ => none
def sitems (st : Sto) (x : DV) : Option (List DV) := match titems x with | some l => some l | none => litems st x
def fz (st : Sto) : DV → Option PyData
  | .d x => some x
  | .t _ => none
  | .r a => match st a with | some (.lst xs) => (datas xs).map .list | _ => none
section
variable {K : PySem.W.Frag} {F H : Hp} {st : Sto} {v w : V} {x y : DV}
theorem rv_int {i : Int} (r : RV K F v (.d (.int i))) : v = .int i := by cases r with | d r => cases r; rfl
theorem rv_bool {b : Bool} (r : RV K F v (.d (.bool b))) : v = .bl b := by cases r with | d r => cases r; rfl
theorem rv_str {z : Str} (r : RV K F v (.d (.str z))) : v = .str z := by cases r with | d r => cases r; rfl
theorem rv_none (r : RV K F v (.d .none)) : v = .non := by cases r with | d r => cases r; rfl
theorem titems_rv {xs : List DV} (r : RV K F v x) (h : titems x = some xs) : ∃ a vs, v = .ref a ∧ F a = some (.tup vs) ∧ RVs K F vs xs := by
  cases x with
  | d z =>
    cases z with
    | tuple ds => cases h; cases r with | d r => cases r with | tup q s => exact ⟨_, _, rfl, q, s.rvs⟩
    | _ => cases h
  | t ys => cases h; cases r with | t q s => exact ⟨_, _, rfl, q, s⟩
  | r a => cases h
theorem litems_rv {xs : List DV} (R : Rs K F H st) (r : RV K F v x) (h : litems st x = some xs) : ∃ a vs, v = .ref a ∧ SqL K H a vs ∧ RVs K F vs xs := by
  cases x with
  | d z =>
    cases z with
    | list ds => cases h; cases r with | d r => cases r with | lst q s => exact ⟨_, _, rfl, SqL.mono (Rs.ex F H st R) q, s.rvs⟩
    | _ => cases h
  | t ys => cases h
  | r a =>
    cases r
    unfold litems at h
    simp only at h
    cases e : st a with
    | none => rw [e] at h; cases h
    | some m =>
      rw [e] at h
      cases m with
      | lst ys =>
        cases h
        obtain ⟨vs, q, s⟩ := R.ok a _ e
        exact ⟨a, vs, rfl, SqL.of q, s⟩
      | dK _ => cases h
      | dT _ => cases h
      | ins _ _ => cases h
      | lk _ _ _ => cases h
      | xd _ => cases h
theorem sitems_rv {xs : List DV} (R : Rs K F H st) (r : RV K F v x) (h : sitems st x = some xs) : ∃ a vs, v = .ref a ∧ (SqL K H a vs ∨ SqT K H a vs) ∧ RVs K F vs xs := by
  unfold sitems at h
  cases e : titems x with
  | some l =>
    rw [e] at h
    cases h
    obtain ⟨a, vs, e1, q, s⟩ := titems_rv r e
    exact ⟨a, vs, e1, .inr (SqT.of (R.sub _ _ q).1), s⟩
  | none =>
    rw [e] at h
    obtain ⟨a, vs, e1, q, s⟩ := litems_rv R r h
    exact ⟨a, vs, e1, .inl q, s⟩
theorem fz_dp {d : PyData} (R : Rs K F H st) (r : RV K F v x) (h : fz st x = some d) : Dp K H v d := by
  cases x with
  | d z => cases h; cases r with | d r => exact r.dp (Rs.ex F H st R)
  | t ys => cases h
  | r a =>
    cases r
    unfold fz at h
    simp only at h
    cases e : st a with
    | none => rw [e] at h; cases h
    | some m =>
      rw [e] at h
      cases m with
      | lst ys =>
        simp only at h
        cases e2 : datas ys with
        | none => rw [e2] at h; cases h
        | some ds =>
          rw [e2] at h
          cases h
          have e3 := datas_eq e2
          subst e3
          obtain ⟨vs, q, s⟩ := R.ok a _ e
          exact .lst (SqL.of q) (s.all.dp (Rs.ex F H st R))
      | dK _ => cases h
      | dT _ => cases h
      | ins _ _ => cases h
      | lk _ _ _ => cases h
      | xd _ => cases h
/-- + -/
def qAdd (m : Bool) : R2D := fun x y st Q => match x, y with
  | .d (.int i), .d (.int j) => Q (.d (.int (i + j))) st
  | .d (.str a), .d (.str b) => a.length + b.length ≤ sizeLine ∧ Q (.d (.str (a ++ b))) st
  | _, _ => match titems x, titems y with
    | some a, some b => a.length + b.length ≤ sizeLine ∧ Q (mkT (a ++ b)) st
    | _, _ => match litems st x, litems st y with
      | some a, some b => a.length + b.length ≤ sizeLine ∧ newL m (a ++ b) st Q
      | _, _ => False
variable {X : Cx}
theorem op_qAdd (m : Bool) : ∃ r', OpR X (binaryOp .Add) r' ∧ S2 X.K r' (qAdd m) := by
  refine ⟨_, OpR.or2 (OpR.or2 op_add op_add_str) (OpR.or2 op_catA op_catL), ?_⟩
  intro F H st v w x y Qd Q R rv rw' h kk
  unfold qAdd at h
  split at h
  · cases rv_int rv; cases rv_int rw'
    exact .inl (.inl ⟨_, _, rfl, rfl, kk.at R (.d (.int _)) h⟩)
  · cases rv_str rv; cases rv_str rw'
    exact .inl (.inr ⟨_, _, rfl, rfl, h.1, kk.at R (.d (.str _)) h.2⟩)
  · refine .inr ?_
    split at h
    · rename_i a b ea eb
      obtain ⟨p, vs, rfl, q1, s1⟩ := titems_rv rv ea
      obtain ⟨p2, ws, rfl, q2, s2⟩ := titems_rv rw' eb
      have hl := s1.length
      have hl2 := s2.length
      refine .inl ⟨p, p2, vs, ws, rfl, rfl, SqT.of (R.sub _ _ q1).1, SqT.of (R.sub _ _ q2).1, by omega, fun e => ?_, fun _ e => ?_, fun _ _ p hp => new_tup R (s1.append s2) hp h.2 kk⟩
      · subst e
        cases s1
        exact kk.at R (mkT_rv q2 s2) h.2
      · subst e
        cases s2
        rw [List.append_nil] at h
        exact kk.at R (mkT_rv q1 s1) h.2
    · split at h
      · rename_i a b ea eb
        obtain ⟨p, vs, rfl, q1, s1⟩ := litems_rv R rv ea
        obtain ⟨p2, ws, rfl, q2, s2⟩ := litems_rv R rw' eb
        have hl := s1.length
        have hl2 := s2.length
        exact .inr ⟨p, p2, vs, ws, rfl, rfl, q1, q2, by omega, fun p hp => new_lst R (s1.append s2) hp h.2 kk⟩
      · exact h.elim
/-- dints in, an int out -/
def qI2 (C : Int → Int → Prop) (g : Int → Int → Int) : R2D := fun x y st Q => match x, y with
  | .d (.int i), .d (.int j) => C i j ∧ Q (.d (.int (g i j))) st
  | _, _ => False
theorem qI2_out {C : Int → Int → Prop} {g : Int → Int → Int} {x y : DV} {st : Sto} {Q : DV → Sto → Prop} (h : qI2 C g x y st Q) : ∃ i j, x = .d (.int i) ∧ y = .d (.int j) ∧ C i j ∧ Q (.d (.int (g i j))) st := by
  unfold qI2 at h
  split at h
  · exact ⟨_, _, rfl, rfl, h⟩
  · exact h.elim
theorem s2_I2 {C : Int → Int → Prop} {g : Int → Int → Int} : S2 K (rI C fun i j => .int (g i j)) (qI2 C g) := fun F H st v w x y Qd Q R rv rw' h kk => by
  obtain ⟨i, j, e1, e2, hc, q⟩ := qI2_out h
  subst e1 e2
  cases rv_int rv; cases rv_int rw'
  exact ⟨i, j, rfl, rfl, hc, kk.at R (.d (.int _)) q⟩
theorem s2_I0 {g : Int → Int → Int} : S2 K (rI0 fun i j => .int (g i j)) (qI2 (fun _ _ => True) g) := fun F H st v w x y Qd Q R rv rw' h kk => by
  obtain ⟨i, j, e1, e2, hc, q⟩ := qI2_out h
  subst e1 e2
  cases rv_int rv; cases rv_int rw'
  exact ⟨i, j, rfl, rfl, kk.at R (.d (.int _)) q⟩
def qSub : R2D := qI2 (fun _ _ => True) fun i j => i - j
def CMulA (i j : Int) : Prop := CMul i j ∨ CMulW i j
def qMul (m : Bool) : R2D := fun x y st Q => match x, y with
  | .d (.int i), .d (.int j) => CMulA i j ∧ Q (.d (.int (i * j))) st
  | _, .d (.int k) => match titems x with
    | some a => a ≠ [] ∧ k ≤ 1000 ∧ -1000 ≤ k ∧ a.length ≤ 1000 ∧ Q (mkT (List.replicate k.toNat a).flatten) st
    | none => False
  | _, _ => False
theorem rep_rvs {vs : List V} {xs : List DV} (r : RVs K F vs xs) : ∀ n : Nat, RVs K F (List.replicate n vs).flatten (List.replicate n xs).flatten
  | 0 => .nil
  | n + 1 => by
    rw [List.replicate_succ, List.replicate_succ, List.flatten_cons, List.flatten_cons]
    exact r.append (rep_rvs r n)
theorem op_qMul (m : Bool) : ∃ r', OpR X (binaryOp .Mult) r' ∧ S2 X.K r' (qMul m) := by
  refine ⟨_, OpR.or2 (OpR.or2 op_mul op_mulW) op_repA, ?_⟩
  intro F H st v w x y Qd Q R rv rw' h kk
  unfold qMul at h
  split at h
  · cases rv_int rv; cases rv_int rw'
    rcases h.1 with hc | hc
    · exact .inl (.inl ⟨_, _, rfl, rfl, hc, kk.at R (.d (.int _)) h.2⟩)
    · exact .inl (.inr ⟨_, _, rfl, rfl, hc, kk.at R (.d (.int _)) h.2⟩)
  · cases rv_int rw'
    refine .inr ?_
    split at h
    · rename_i a ea
      obtain ⟨p, vs, rfl, q1, s1⟩ := titems_rv rv ea
      have hl := s1.length
      obtain ⟨h1, h2, h3, h4, h5⟩ := h
      refine ⟨p, _, vs, rfl, rfl, SqT.of (R.sub _ _ q1).1, fun e => h1 ?_, h2, h3, by omega, fun e => ?_, fun _ p hp => new_tup R (rep_rvs s1 _) hp h5 kk⟩
      · subst e
        cases s1
        rfl
      · subst e
        have e1 : (List.replicate (1 : Int).toNat a).flatten = a := by simp
        rw [e1] at h5
        exact kk.at R (mkT_rv q1 s1) h5
    · exact h.elim
  · exact h.elim
def CFd (i j : Int) : Prop := (j ≠ 0 ∧ j.natAbs < 1073741824) ∨ CDivW i j
def qFdiv : R2D := qI2 CFd fun i j => i.fdiv j
theorem op_qFdiv : ∃ r', OpR X (binaryOp .FloorDiv) r' ∧ S2 X.K r' qFdiv := by
  refine ⟨_, OpR.or2 op_fdivN op_fdivW, ?_⟩
  intro F H st v w x y Qd Q R rv rw' h kk
  obtain ⟨i, j, rfl, rfl, hc, q⟩ := qI2_out h
  cases rv_int rv; cases rv_int rw'
  rcases hc with hc | hc
  · exact .inl ⟨i, j, rfl, rfl, hc, kk.at R (.d (.int _)) q⟩
  · refine .inr ⟨i, j, rfl, rfl, hc, ?_⟩
    have h0 : (0 : Int) < j := hc.1
    show Q (V.int (i / j)) H
    rw [show i / j = i.fdiv j from (Int.fdiv_eq_ediv_of_nonneg i (by omega)).symm]
    exact kk.at R (.d (.int _)) q
def qMod : R2D := qI2 (fun _ j => j ≠ 0) fun i j => i.fmod j
theorem op_qMod : ∃ r', OpR X (binaryOp .Mod) r' ∧ S2 X.K r' qMod := ⟨_, op_modN, s2_I2⟩
def qPow : R2D := qI2 CPow fun i j => i ^ j.toNat
theorem op_qPow : ∃ r', OpR X (binaryOp .Pow) r' ∧ S2 X.K r' qPow := ⟨_, op_pow, s2_I2⟩
theorem op_qSub : ∃ r', OpR X (binaryOp .Sub) r' ∧ S2 X.K r' qSub := ⟨_, op_sub, s2_I0⟩
theorem de_bin {op : Operator} {a b : Expr} {pos : Pos} {ta tb : TD} {r : R2D} (ho : ∃ r', OpR X (binaryOp op) r' ∧ S2 X.K r' r) (ha : DE X a ta) (hb : DE X b tb) : DE X (.BinOp a op b pos) (qOp r ta tb) :=
  let ⟨_, h1, h2⟩ := ho; de_op h1 h2 ha hb
theorem de_cp {op : CmpOp} {a b : Expr} {pos : Pos} {ta tb : TD} {r : R2D} (ho : ∃ r', OpR X (compareOp op) r' ∧ S2 X.K r' r) (hm : behindInMarks op b = false) (ha : DE X a ta) (hb : DE X b tb) : DE X (.Compare a [op] [b] pos) (qOp r ta tb) :=
  let ⟨_, h1, h2⟩ := ho; de_cmp h1 h2 hm ha hb
theorem test_sg {te : TE} {t : TD} (a : Sg (RV K) K te t) : Sg relT K (fun σ H Q => te σ H fun z H1 => ∃ k, z = .bl k ∧ Q k H1) (qTest t) := fun F σ H ε st Qd Q R E h kk =>
  a.go R E h kk fun F1 H1 s1 v x R1 E1 rv q kk => by
    obtain ⟨b, rfl, q⟩ := onB_out q
    cases rv_bool rv
    exact ⟨b, rfl, kk.at R1 rfl q⟩
theorem dt_cp {op : CmpOp} {a b : Expr} {pos : Pos} {ta tb : TD} {r : R2D} (ho : ∃ r', OpR X (compareOp op) r' ∧ S2 X.K r' r) (hm : behindInMarks op b = false) (ha : DE X a ta) (hb : DE X b tb) : DT X (.Compare a [op] [b] pos) (qTest (qOp r ta tb)) := by
  obtain ⟨r', h1, h2⟩ := ho
  obtain ⟨te, pa, sa⟩ := ha
  obtain ⟨tf, pb, sb⟩ := hb
  exact ⟨⟨_, pt_cmpR h1 pa pb hm, test_sg (Sg.bin sa sb (fun _ _ _ _ e h => RV.mono e h) h2)⟩⟩
theorem dt_ch {op op' : CmpOp} {a b c : Expr} {pos : Pos} {ta tb tc : TD} {d1 d2 : R2D} (ho : ∃ r', OpR X (compareOp op) r' ∧ S2 X.K r' d1) (ho2 : ∃ r', OpR X (compareOp op') r' ∧ S2 X.K r' d2) (hm : lastMarks [op, op'] [b, c] = false)
    (ha : DE X a ta) (hb : DE X b tb) (hc : DE X c tc) : DT X (.Compare a [op, op'] [b, c] pos) (qTest (qChain d1 d2 ta tb tc)) := by
  obtain ⟨r1, h1, h2⟩ := ho
  obtain ⟨r2, h3, h4⟩ := ho2
  obtain ⟨te, pa, sa⟩ := ha
  obtain ⟨tf, pb, sb⟩ := hb
  obtain ⟨tg, pc, sc'⟩ := hc
  refine ⟨⟨_, pt_chain h1 h3 pa pb pc hm, test_sg (fun F σ H ε st Qd Q R E h kk => ?_)⟩⟩
  exact chain_sim h2 h4 sa sb sc' F σ H ε st Qd Q R E h kk
def qEq : R2D := fun x y st Q => match fz st x, fz st y with
  | some a, some b => SeqAt.shaped a = true ∧ SeqAt.shaped b = true ∧ Q (.d (.bool (PyData.eqv a b))) st
  | _, _ => False
def qNe : R2D := fun x y st Q => match fz st x, fz st y with
  | some a, some b => SeqAt.shaped a = true ∧ SeqAt.shaped b = true ∧ Q (.d (.bool (!PyData.eqv a b))) st
  | _, _ => False
theorem op_qEq (hu : X.A.units + 64 < cLine) : ∃ r', OpR X (compareOp .Eq) r' ∧ S2 X.K r' qEq :=
  ⟨_, op_eqD hu, fun F H st v w x y Qd Q R rv rw' h kk => by
    unfold qEq at h
    split at h
    · rename_i a b e1 e2
      exact ⟨a, b, fz_dp R rv e1, fz_dp R rw' e2, h.1, h.2.1, kk.at R (.d (.bl _)) h.2.2⟩
    · exact h.elim⟩
theorem op_qNe (hu : X.A.units + 64 < cLine) : ∃ r', OpR X (compareOp .NotEq) r' ∧ S2 X.K r' qNe :=
  ⟨_, op_neD hu, fun F H st v w x y Qd Q R rv rw' h kk => by
    unfold qNe at h
    split at h
    · rename_i a b e1 e2
      exact ⟨a, b, fz_dp R rv e1, fz_dp R rw' e2, h.1, h.2.1, kk.at R (.d (.bl _)) h.2.2⟩
    · exact h.elim⟩
def dints : List DV → Option (List Int)
  | [] => some []
  | .d (.int i) :: r => (dints r).map (i :: ·)
  | _ :: _ => none
theorem dints_rvs : ∀ {vs : List V} {xs : List DV} {ns : List Int}, RVs K F vs xs → dints xs = some ns → vs = ns.map V.int ∧ xs = ns.map fun i => .d (.int i)
  | _, [], ns, r, h => by cases h; cases r; exact ⟨rfl, rfl⟩
  | v :: vs, .d (.int i) :: xs, ns, .cons r q, h => by
    cases e : dints xs with
    | none => simp [dints, e] at h
    | some l =>
      simp [dints, e] at h
      subst h
      obtain ⟨h1, h2⟩ := dints_rvs q e
      cases rv_int r
      exact ⟨by rw [h1]; rfl, by rw [h2]; rfl⟩
theorem dints_map : ∀ l : List Int, dints (l.map fun i => .d (.int i)) = some l
  | [] => rfl
  | i :: r => by simp [dints, dints_map r]
def qCmpI (g : Int → Int → Bool) : R2D := fun x y st Q => match x, y with
  | .d (.int i), .d (.int j) => Q (.d (.bool (g i j))) st
  | _, _ => False
theorem s2_cmpI {g : Int → Int → Bool} : S2 K (rI0 fun i j => .bl (g i j)) (qCmpI g) := fun F H st v w x y Qd Q R rv rw' h kk => by
  unfold qCmpI at h
  split at h
  · cases rv_int rv; cases rv_int rw'
    exact ⟨_, _, rfl, rfl, kk.at R (.d (.bl _)) h⟩
  · exact h.elim
def qLt : R2D := fun x y st Q => match x, y with
  | .d (.int i), .d (.int j) => Q (.d (.bool (decide (i < j)))) st
  | _, _ => match (titems x).bind dints, (titems y).bind dints with
    | some ns, some ms => Q (.d (.bool (HT.lexLt ns ms))) st
    | _, _ => False
theorem op_qLt (hu : X.A.units < cLine) : ∃ r', OpR X (compareOp .Lt) r' ∧ S2 X.K r' qLt := by
  refine ⟨_, OpR.or2 op_lt (op_ltT hu), ?_⟩
  intro F H st v w x y Qd Q R rv rw' h kk
  unfold qLt at h
  split at h
  · cases rv_int rv; cases rv_int rw'
    exact .inl ⟨_, _, rfl, rfl, kk.at R (.d (.bl _)) h⟩
  · split at h
    rotate_left
    · exact h.elim
    rename_i ns ms e13 e24
    have q := h
    obtain ⟨a, e1, e3⟩ := Option.bind_eq_some_iff.mp e13
    obtain ⟨b, e2, e4⟩ := Option.bind_eq_some_iff.mp e24
    obtain ⟨p, vs, rfl, q1, s1⟩ := titems_rv rv e1
    obtain ⟨p2, ws, rfl, q2, s2⟩ := titems_rv rw' e2
    obtain ⟨rfl, _⟩ := dints_rvs s1 e3
    obtain ⟨rfl, _⟩ := dints_rvs s2 e4
    exact .inr ⟨p, p2, ns, ms, rfl, rfl, SqT.of (R.sub _ _ q1).1, SqT.of (R.sub _ _ q2).1, kk.at R (.d (.bl _)) q⟩
def qLe : R2D := qCmpI fun i j => decide (i ≤ j)
def qGt : R2D := qCmpI fun i j => decide (j < i)
def qGe : R2D := qCmpI fun i j => decide (j ≤ i)
theorem op_qLe : ∃ r', OpR X (compareOp .LtE) r' ∧ S2 X.K r' qLe := ⟨_, op_le, s2_cmpI⟩
theorem op_qGt : ∃ r', OpR X (compareOp .Gt) r' ∧ S2 X.K r' qGt := ⟨_, op_gt, s2_cmpI⟩
theorem op_qGe : ∃ r', OpR X (compareOp .GtE) r' ∧ S2 X.K r' qGe := ⟨_, op_ge, s2_cmpI⟩
/-- is None -/
def isN : DV → Bool
  | .d .none => true
  | _ => false
def qIsN : R2D := fun x y st Q => y = .d .none ∧ Q (.d (.bool (isN x))) st
def qNotN : R2D := fun x y st Q => y = .d .none ∧ Q (.d (.bool (!isN x))) st
theorem rv_isN (r : RV K F v x) : decide (v = .non) = isN x := by
  cases r with
  | d r => cases r <;> rfl
  | r a => rfl
  | t _ _ => rfl
theorem op_qIsN : ∃ r', OpR X (compareOp .Is) r' ∧ S2 X.K r' qIsN := by
  refine ⟨_, op_isN, ?_⟩
  rintro F H st v w x y Qd Q R rv rw' ⟨rfl, q⟩ kk
  cases rv_none rw'
  refine ⟨rfl, ?_⟩
  rw [rv_isN rv]
  exact kk.at R (.d (.bl _)) q
theorem op_qNotN : ∃ r', OpR X (compareOp .IsNot) r' ∧ S2 X.K r' qNotN := by
  refine ⟨_, op_notN, ?_⟩
  rintro F H st v w x y Qd Q R rv rw' ⟨rfl, q⟩ kk
  cases rv_none rw'
  refine ⟨rfl, ?_⟩
  rw [rv_isN rv]
  exact kk.at R (.d (.bl _)) q
/-- unary minus -/
def qNeg : R1D := fun x st Q => match x with | .d (.int i) => Q (.d (.int (-i))) st | _ => False
theorem de_neg {a : Expr} {pos : Pos} {ta : TD} (ha : DE X a ta) : DE X (.UnaryOp .USub a pos) (qUn qNeg ta) :=
  de_un un_neg (fun F H st v x Qd Q R rv h kk => by
    unfold qNeg at h
    split at h
    · cases rv_int rv; exact ⟨_, rfl, kk.at R (.d (.int _)) h⟩
    · exact h.elim) ha
theorem atI_rv {vs : List V} {xs : List DV} {i : Int} {x : DV} (r : RVs K F vs xs) (h : atI xs i = some x) : ∃ v, atI vs i = some v ∧ RV K F v x := by
  unfold atI at h ⊢
  rw [r.length]
  cases e : ixN xs.length i with
  | none => rw [e] at h; cases h
  | some j =>
    rw [e] at h
    exact r.get' h
def qIx : R2D := fun x y st Q => match y with
  | .d (.int i) => match x with
    | .d (.str z) => z.length ≤ sizeLine ∧ (match atI z.cps.toList i with | some c => Q (.d (.str ⟨#[c]⟩)) st | none => False)
    | _ => match sitems st x with
      | some xs => (match atI xs i with | some z => Q z st | none => False)
      | none => False
  | _ => False
theorem de_ix {a b : Expr} {pos : Pos} {ta tb : TD} (ha : DE X a ta) (hb : DE X b tb) (hs : PlainIx b) : DE X (.Subscript a b pos) (qOp qIx ta tb) := by
  obtain ⟨te, pa, sa⟩ := ha
  obtain ⟨tf, pb, sb⟩ := hb
  refine ⟨⟨_, pe_ix ix_seq pa pb hs, Sg.bin sa sb (fun _ _ _ _ e h => RV.mono e h) ?_⟩⟩
  intro F H st v w x y Qd Q R rv rw' h kk
  unfold qIx at h
  split at h
  · cases rv_int rw'
    split at h
    · cases rv_str rv
      obtain ⟨h1, h⟩ := h
      split at h
      · rename_i c h2
        exact .inr (.inr ⟨_, _, c, rfl, rfl, h1, h2, kk.at R (.d (.str _)) h⟩)
      · exact h.elim
    · split at h
      · rename_i xs es
        split at h
        rotate_left
        · exact h.elim
        rename_i z ez
        have q := h
        obtain ⟨p, vs, rfl, hq, s⟩ := sitems_rv R rv es
        obtain ⟨u, eu, ru⟩ := atI_rv s ez
        rcases hq with hq | hq
        · exact .inl ⟨p, vs, _, u, rfl, rfl, hq, eu, kk.at R ru q⟩
        · exact .inr (.inl ⟨p, vs, _, u, rfl, rfl, hq, eu, kk.at R ru q⟩)
      · exact h.elim
  · exact h.elim
/-- parts of a slice -/
abbrev relO : Hp → Option Int → Option Int → Prop := fun _ a b => a = b
structure DO (X : Cx) (e : Option Expr) (t : Env → Sto → (Option Int → Sto → Prop) → Prop) : Prop where
  ex : ∃ te, PO X e te ∧ Sg relO X.K te t
def qNoPart : Env → Sto → (Option Int → Sto → Prop) → Prop := fun _ st Q => Q none st
def qPart (ta : TD) : Env → Sto → (Option Int → Sto → Prop) → Prop := fun ε st Q => ta ε st fun x s1 => match x with | .d (.int i) => Q (some i) s1 | _ => False
theorem do_none : DO X none qNoPart := ⟨⟨_, po_none, fun F σ H ε st Qd Q R E q kk => kk.at R rfl q⟩⟩
theorem do_some {e : Expr} {ta : TD} (h : DE X e ta) : DO X (some e) (qPart ta) := by
  obtain ⟨te, pa, sa⟩ := h
  refine ⟨⟨_, po_some pa, fun F σ H ε st Qd Q R E h kk => sa.go R E h kk fun F1 H1 s1 v x R1 E1 rv q kk => ?_⟩⟩
  split at q
  · cases rv_int rv
    exact ⟨_, rfl, kk.at R1 rfl q⟩
  · exact q.elim
def cutD {α : Type} (xs : List α) (lo hi : Option Int) : List α := (xs.drop (HT.sIx xs.length 0 lo)).take (HT.sIx xs.length xs.length hi - HT.sIx xs.length 0 lo)
theorem cut_rvs {vs : List V} {xs : List DV} (r : RVs K F vs xs) (lo hi : Option Int) : RVs K F (cutV vs lo hi) (cutD xs lo hi) := by
  unfold cutV cutD
  rw [r.length]
  exact (r.drop _).take _
theorem cutD_map {α β : Type} (f : α → β) (xs : List α) (lo hi : Option Int) : cutD (xs.map f) lo hi = (cutD xs lo hi).map f := by
  unfold cutD
  rw [List.length_map, List.map_take, List.map_drop]
def qSl (m : Bool) (te : TD) (tl th : Env → Sto → (Option Int → Sto → Prop) → Prop) : TD := fun ε st Q => te ε st fun x s1 => tl ε s1 fun lo s2 => th ε s2 fun hi s3 => match x with
  | .d (.str z) => z.length ≤ sizeLine ∧ Q (.d (.str (cutS z lo hi))) s3
  | _ => match titems x with
    | some xs => Q (mkT (cutD xs lo hi)) s3
    | none => match litems s3 x with
      | some xs => newL m (cutD xs lo hi) s3 Q
      | none => False
theorem de_sl {e : Expr} {lo hi : Option Expr} {p2 pos : Pos} {te : TD} {tl th : Env → Sto → (Option Int → Sto → Prop) → Prop} (m : Bool) (he : DE X e te) (hl : DO X lo tl) (hh : DO X hi th) : DE X (.Subscript e (.Slice lo hi none p2) pos) (qSl m te tl th) := by
  obtain ⟨t1, pa, sa⟩ := he
  obtain ⟨t2, pb, sb⟩ := hl
  obtain ⟨t3, pc, sc⟩ := hh
  refine ⟨⟨_, pe_slice (SlR.or (SlR.or sl_list sl_tupA) sl_str) pa pb pc, fun F σ H ε st Qd Q R E h kk => ?_⟩⟩
  refine sa.go R E h kk fun F1 H1 s1 v x R1 E1 rv h kk => ?_
  refine sb F1 σ H1 ε s1 _ _ R1 E1 h fun F2 l H2 l' s2 t2 R2 rl h => ?_
  refine sc F2 σ H2 ε s2 _ _ R2 (E1.mono t2.ex) h fun F3 u H3 u' s3 t3 R3 ru h => ?_
  cases rl; cases ru
  have rv3 := rv.mono (t2.trans t3).ex
  have kk3 : Kg (RV X.K) X.K F3 H3 s3 Qd Q := fun F4 z H4 z' s4 t4 R4 rz q4 => kk F4 z H4 z' s4 ((t2.trans t3).trans t4) R4 rz q4
  split at h
  · cases rv_str rv
    exact .inr ⟨_, rfl, h.1, kk3.at R3 (.d (.str _)) h.2⟩
  · split at h
    · rename_i xs ex
      obtain ⟨p, vs, rfl, q1, s1⟩ := titems_rv rv3 ex
      refine .inl (.inr ⟨p, vs, rfl, SqT.of (R3.sub _ _ q1).1, fun hw => ?_, fun _ p hp => new_tup R3 (cut_rvs s1 _ _) hp h kk3⟩)
      refine kk3.at R3 ?_ h
      have e : cutD xs l u = xs := by
        unfold cutD
        rw [← s1.length]
        rw [hw.1, hw.2, List.drop_zero, Nat.sub_zero, s1.length, List.take_length]
      rw [e]
      exact mkT_rv q1 s1
    · split at h
      · rename_i xs ex
        obtain ⟨p, vs, rfl, q1, s1⟩ := litems_rv R3 rv3 ex
        exact .inl (.inl ⟨p, vs, rfl, q1, fun p hp => new_lst R3 (cut_rvs s1 _ _) hp h kk3⟩)
      · exact h.elim
end
end DL
end
section
set_option Elab.async false
set_option linter.all false
set_option maxRecDepth 100000
set_option maxHeartbeats 4000000
namespace DL
open PySem L2 PyProof.Rows
variable [tB : Tb] [gR : Gr]
structure EndsD where
  nx : Env → Sto → Prop
  rt : DV → Sto → Prop
  bk : Env → Sto → Prop := fun _ _ => False
  ct : Env → Sto → Prop := fun _ _ => False
abbrev TDs := EndsD → Env → Sto → Prop
abbrev TDg := DV → Env → Sto → (Env → Sto → Prop) → Prop
abbrev TDgs := List DV → Env → Sto → (Env → Sto → Prop) → Prop
abbrev TDi := Env → Sto → (List DV → (Sto → Prop) → Sto → Prop) → Prop
def KE (K : PySem.W.Frag) (F H : Hp) (st : Sto) (Dn : Env → Sto → Prop) (N : L2.St → Hp → Prop) : Prop :=
  ∀ F' σ' H' ε' st', Step F H st F' H' st' → Rs K F' H' st' → RE K F' σ' ε' → Dn ε' st' → N σ' H'
structure KS (K : PySem.W.Frag) (F H : Hp) (st : Sto) (Dd : EndsD) (D : Ends) : Prop where
  nx : KE K F H st Dd.nx D.nx
  rt : Kg (RV K) K F H st Dd.rt D.rt
  bk : KE K F H st Dd.bk D.bk
  ct : KE K F H st Dd.ct D.ct
theorem KE.step {K : PySem.W.Frag} {F H F1 H1 : Hp} {st st1 : Sto} {Dn : Env → Sto → Prop} {N : L2.St → Hp → Prop} (k : KE K F H st Dn N) (t : Step F H st F1 H1 st1) : KE K F1 H1 st1 Dn N :=
  fun F' σ' H' ε' st' s R E q => k F' σ' H' ε' st' (t.trans s) R E q
theorem Kg.step {α β : Type} {rel : Hp → α → β → Prop} {K : PySem.W.Frag} {F H F1 H1 : Hp} {st st1 : Sto} {Qd : β → Sto → Prop} {Q : α → Hp → Prop} (k : Kg rel K F H st Qd Q) (t : Step F H st F1 H1 st1) : Kg rel K F1 H1 st1 Qd Q :=
  fun F' v H' x st' s R r q => k F' v H' x st' (t.trans s) R r q
theorem KS.step {K : PySem.W.Frag} {F H F1 H1 : Hp} {st st1 : Sto} {Dd : EndsD} {D : Ends} (k : KS K F H st Dd D) (t : Step F H st F1 H1 st1) : KS K F1 H1 st1 Dd D :=
  ⟨k.nx.step t, k.rt.step t, k.bk.step t, k.ct.step t⟩
theorem KE.at {K : PySem.W.Frag} {F H : Hp} {st : Sto} {σ : L2.St} {ε : Env} {Dn : Env → Sto → Prop} {N : L2.St → Hp → Prop} (k : KE K F H st Dn N) (R : Rs K F H st) (E : RE K F σ ε) (q : Dn ε st) : N σ H :=
  k F σ H ε st (Step.refl _ _ _) R E q
def SS (K : PySem.W.Frag) (ts : TS) (t : TDs) : Prop := ∀ F σ H ε st Dd D, Rs K F H st → RE K F σ ε → t Dd ε st → KS K F H st Dd D → ts D σ H
structure DS (X : Cx) (s : Stmt) (t : TDs) : Prop where
  ex : ∃ ts, PS X s ts ∧ SS X.K ts t
structure DSs (X : Cx) (s : List Stmt) (t : TDs) : Prop where
  ex : ∃ ts, PSs X s ts ∧ SS X.K ts t
structure DG (X : Cx) (tg : Expr) (ws : List Nat) (t : TDg) : Prop where
  ex : ∃ g, PG X tg g ∧ ∀ F σ H ε st v x Qd Q, Rs X.K F H st → RE X.K F σ ε → RV X.K F v x → t x ε st Qd →
    (∀ F' σ' H' ε' st', Step F H st F' H' st' → Rs X.K F' H' st' → RE X.K F' σ' ε' → (∀ vs : List Nat, (∀ i ∈ ws, i ∈ vs) → wipe σ' vs = wipe σ vs) → Qd ε' st' → Q σ' H') → g v σ H Q
structure DGs (X : Cx) (tg : List Expr) (ws : List Nat) (t : TDgs) : Prop where
  ex : ∃ g, PGs X tg g ∧ ∀ F σ H ε st v x Qd Q, Rs X.K F H st → RE X.K F σ ε → RVs X.K F v x → t x ε st Qd →
    (∀ F' σ' H' ε' st', Step F H st F' H' st' → Rs X.K F' H' st' → RE X.K F' σ' ε' → (∀ vs : List Nat, (∀ i ∈ ws, i ∈ vs) → wipe σ' vs = wipe σ vs) → Qd ε' st' → Q σ' H') → g v σ H Q
/-- what an iterator of these items does -/
def Src (K : PySem.W.Frag) (F0 : Hp) (J : It) (items : List DV) (inv : Sto → Prop) : Prop := ∀ F H st, (∀ a o, F0 a = some o → F a = some o) → Rs K F H st → inv st →
  (∀ i x, items[i]? = some x → J.go i H ∧ ∀ v H', J.yld i H v H' → ∃ F', Step F H st F' H' st ∧ Rs K F' H' st ∧ RV K F' v x) ∧ J.stop items.length H
structure DI (X : Cx) (tg iter : Expr) (t : TDi) : Prop where
  ex : ∃ wi, PI X tg iter wi ∧ ∀ F σ H ε st Qd R', Rs X.K F H st → RE X.K F σ ε → t ε st Qd →
    (∀ F' J H' items inv st', Step F H st F' H' st' → Rs X.K F' H' st' → Src X.K F' J items inv → Qd items inv st' → R' J H') → wi σ H R'
section
variable {P : Program} {w : World} {K : PySem.W.Frag} {mg : Str → Option Value} {base : Heap} {X : Cx} {N : List Str} {sc fs : Scope} {k : Nat}
def qSeq (t u : TDs) : TDs := fun D ε st => t { D with nx := u D } ε st
def qNext : TDs := fun D ε st => D.nx ε st
theorem ds_nil : DSs X [] qNext := ⟨⟨_, pss_nil, fun F σ H ε st Dd D R E h kk => kk.nx.at R E h⟩⟩
theorem ds_cons {s : Stmt} {r : List Stmt} {t u : TDs} (h : DS X s t) (hr : DSs X r u) : DSs X (s :: r) (qSeq t u) := by
  obtain ⟨ts, p, a⟩ := h
  obtain ⟨us, q, b⟩ := hr
  refine ⟨⟨_, pss_cons p q, fun F σ H ε st Dd D R E h kk => ?_⟩⟩
  exact a F σ H ε st _ _ R E h ⟨fun F' σ' H' ε' st' s R' E' q => b F' σ' H' ε' st' _ _ R' E' q (kk.step s), kk.rt, kk.bk, kk.ct⟩
theorem ds_one {s : Stmt} {t : TDs} (h : DS X s t) : DSs X [s] t := let ⟨ts, p, a⟩ := h.ex; ⟨⟨ts, pss_one p, a⟩⟩
def qNever : TDs := fun _ _ _ => False
theorem ds_never {s : Stmt} : DS X s qNever := ⟨⟨_, ps_never, fun F σ H ε st Dd D R E h kk => h.elim⟩⟩
def qDrop (te : TD) : TDs := fun D ε st => te ε st fun _ s1 => D.nx ε s1
theorem ds_expr {e : Expr} {te : TD} {pos : Pos} (h : DE X e te) (hs : swapsWith e none pos.line X.env = pure false := by rfl) : DS X (.Expr e pos) (qDrop te) := by
  obtain ⟨t1, p, a⟩ := h
  refine ⟨⟨_, ps_expr p hs, fun F σ H ε st Dd D R E h kk => ?_⟩⟩
  exact a F σ H ε st _ _ R E h fun F' v H' x st' s R' r q => kk.nx F' σ H' ε st' s R' (E.mono s.ex) q
def qRet (te : TD) : TDs := fun D ε st => te ε st D.rt
theorem ds_ret {e : Expr} {te : TD} {pos : Pos} (h : DE X e te) : DS X (.Return (some e) pos) (qRet te) := by
  obtain ⟨t1, p, a⟩ := h
  exact ⟨⟨_, ps_ret p, fun F σ H ε st Dd D R E h kk => a F σ H ε st _ _ R E h kk.rt⟩⟩
def qRetN : TDs := fun D _ st => D.rt (.d .none) st
def qIfS (c : TDt) (t u : TDs) : TDs := fun D ε st => c ε st fun b s1 => if b = true then t D ε s1 else u D ε s1
theorem ds_if {c : Expr} {a b : List Stmt} {pos : Pos} {tc : TDt} {t u : TDs} (hc : DT X c tc) (ha : DSs X a t) (hb : DSs X b u) : DS X (.If c a b pos) (qIfS tc t u) := by
  obtain ⟨t0, p0, a0⟩ := hc
  obtain ⟨t1, p1, a1⟩ := ha
  obtain ⟨t2, p2, a2⟩ := hb
  refine ⟨⟨_, ps_if p0 p1 p2, fun F σ H ε st Dd D R E h kk => ?_⟩⟩
  refine a0 F σ H ε st _ _ R E h fun F' v H' x st' s R' r q => ?_
  cases r
  cases v with
  | true => exact a1 F' σ H' ε st' _ _ R' (E.mono s.ex) q (kk.step s)
  | false => exact a2 F' σ H' ε st' _ _ R' (E.mono s.ex) q (kk.step s)
theorem wipe_set {σ : L2.St} {i : Nat} {v : Option V} : ∀ {vs : List Nat}, i ∈ vs → wipe (σ.set i v) vs = wipe σ vs := by
  have comm : ∀ {vs : List Nat} {i : Nat} {σ : L2.St} {v : Option V}, i ∉ vs → wipe (σ.set i v) vs = (wipe σ vs).set i v := by
    intro vs
    induction vs with
    | nil => intros; rfl
    | cons j vs ih =>
      intro i σ v h
      have h1 : i ≠ j := fun e => h (by rw [e]; exact List.mem_cons_self)
      have h2 : i ∉ vs := fun e => h (List.mem_cons_of_mem _ e)
      show (wipe (σ.set i v) vs).set j none = ((wipe σ vs).set j none).set i v
      rw [ih h2, List.set_comm _ _ h1]
  intro vs
  induction vs with
  | nil => intro h; cases h
  | cons j vs ih =>
    intro h
    show (wipe (σ.set i v) vs).set j none = (wipe σ vs).set j none
    by_cases e : i ∈ vs
    · rw [ih e]
    · have e2 : i = j := by
        rcases List.mem_cons.mp h with q | q
        · exact q
        · exact absurd q e
      rw [comm e, ← e2, List.set_set]
def qgN (i : Nat) : TDg := fun x ε st Q => Q (ε.set i (some x)) st
theorem loc_of {i : Nat} {x : Str} (c : Cok P w K mg base X N sc fs k) (h : locB N sc fs i x = true) : X.N[i]? = some x ∧ L2.Loc X.env.scope x ∧ (X.fn x = true ∨ X.env.scope.names.lookup x = some .local) := by
  unfold locB at h
  simp only [Bool.and_eq_true, decide_eq_true_eq] at h
  obtain ⟨h1, h2⟩ := h
  refine ⟨by rw [c.hN]; exact h1, ?_, ?_⟩
  · unfold L2.Loc
    rw [c.hs]
    split at h2 <;> first | exact .inl (by assumption) | exact .inr (by assumption) | cases h2
  · rw [c.hs]
    split at h2
    · exact .inr (by assumption)
    · split at h2
      · exact .inl (c.fn _ (by assumption))
      · cases h2
    · cases h2
theorem dg_name {i : Nat} {x : Str} {pos : Pos} (c : Cok P w K mg base X N sc fs k) (h : locB N sc fs i x = true) : DG X (.Name x pos) [i] (qgN i) := by
  obtain ⟨h1, h2, h3⟩ := loc_of c h
  refine ⟨⟨gName i, pg_name (by rw [c.hN]; exact c.nd) h1 h2 h3, fun F σ H ε st v x Qd Q R E r q kk => ?_⟩⟩
  exact kk F _ H _ st (Step.refl _ _ _) R (E.set r i) (fun vs hv => wipe_set (hv i (by simp))) q
def qgNil : TDgs := fun vs ε st Q => vs = [] ∧ Q ε st
def qgCons (t : TDg) (u : TDgs) : TDgs := fun vs ε st Q => match vs with | [] => False | v :: r => t v ε st fun ε' s' => u r ε' s' Q
theorem dgs_nil : DGs X [] [] qgNil := ⟨⟨_, pgs_nil, fun F σ H ε st v x Qd Q R E r ⟨e, q⟩ kk => by
  subst e
  cases r
  exact ⟨rfl, kk F σ H ε st (Step.refl _ _ _) R E (fun _ _ => rfl) q⟩⟩⟩
theorem dgs_cons {e : Expr} {es : List Expr} {w1 w2 : List Nat} {t : TDg} {u : TDgs} (h : DG X e w1 t) (hr : DGs X es w2 u)
    (hs : (assignEach (e :: es) X.env).map (·.2) = assign e X.env :: (assignEach es X.env).map (·.2) := by rfl) : DGs X (e :: es) (w1 ++ w2) (qgCons t u) := by
  obtain ⟨g, p, a⟩ := h
  obtain ⟨gs, q, b⟩ := hr
  refine ⟨⟨_, pgs_cons p q hs, fun F σ H ε st v x Qd Q R E r h kk => ?_⟩⟩
  cases r with
  | nil => exact h.elim
  | cons r rr =>
    refine ⟨_, _, rfl, a F σ H ε st _ _ _ _ R E r h fun F1 σ1 H1 ε1 st1 s1 R1 E1 w1' h1 => ?_⟩
    exact b F1 σ1 H1 ε1 st1 _ _ _ _ R1 E1 (rr.mono s1.ex) h1 fun F2 σ2 H2 ε2 st2 s2 R2 E2 w2' h2 =>
      kk F2 σ2 H2 ε2 st2 (s1.trans s2) R2 E2 (fun vs hv => (w2' vs fun i hi => hv i (List.mem_append_right _ hi)).trans (w1' vs fun i hi => hv i (List.mem_append_left _ hi))) h2
def qgT (n : Nat) (t : TDgs) : TDg := fun x ε st Q => match titems x with | some xs => xs.length = n ∧ t xs ε st Q | none => False
theorem dg_tup {es : List Expr} {j : Nat} {pos : Pos} {ws : List Nat} {n : Nat} {t : TDgs} (c : Cok P w K mg base X N sc fs k) (h : DGs X es ws t) (hn : (assignEach es X.env).length = n := by rfl) (hst : (assignEach es X.env).findIdx? (·.1) = none := by rfl) : DG X (.Tuple es j pos) ws (qgT n t) := by
  obtain ⟨g, p, a⟩ := h
  refine ⟨⟨_, pg_tup c.calm p hn hst, fun F σ H ε st v x Qd Q R E r h kk => ?_⟩⟩
  unfold qgT at h
  split at h
  · rename_i xs ex
    obtain ⟨b, vs, rfl, q1, s1⟩ := titems_rv r ex
    exact ⟨b, vs, rfl, SqT.of (R.sub _ _ q1).1, s1.length.trans h.1, a F σ H ε st vs xs Qd Q R E s1 h.2 kk⟩
  · exact h.elim
def qAsg (te : TD) (g : TDg) : TDs := fun D ε st => te ε st fun x s1 => g x ε s1 D.nx
/-- an environment that bears a scope alone, for the looks at stores -/
def envS (sc : Scope) : PySem.Env := { scope := sc, locals := 0, globals := 0, cells := [], qual := Str.empty, func := none, code := .none, frame := none, builtins := 0 }
theorem kindOf_S (c : Cok P w K mg base X N sc fs k) : ∀ x, X.env.kindOf x = (envS sc).kindOf x := fun x => by
  unfold PySem.Env.kindOf
  rw [c.hs]
  rfl
theorem blockKind_S (c : Cok P w K mg base X N sc fs k) : X.env.blockKind = (envS sc).blockKind := by
  unfold PySem.Env.blockKind
  rw [c.hs]
  rfl
theorem swapped_S (c : Cok P w K mg base X N sc fs k) (ts : List Expr) (v : Expr) : swappedStores ts v X.env = swappedStores ts v (envS sc) := by
  unfold swappedStores
  simp only [kindOf_S c, blockKind_S c]
theorem swaps_S (c : Cok P w K mg base X N sc fs k) (v : Expr) (t : Option Expr) (l : Nat) : swapsWith v t l X.env = swapsWith v t l (envS sc) := by
  unfold swapsWith
  simp only [kindOf_S c, blockKind_S c, c.hs]
  rfl
theorem swapsS_S (c : Cok P w K mg base X N sc fs k) (ts : List Expr) (v : Expr) (l : Nat) : swapsWithSole ts v l X.env = swapsWithSole ts v l (envS sc) := by
  unfold swapsWithSole
  split
  · exact swaps_S c _ _ _
  · rfl
theorem ds_asg {tg e : Expr} {pos : Pos} {ws : List Nat} {te : TD} {g : TDg} (c : Cok P w K mg base X N sc fs k) (he : DE X e te) (hg : DG X tg ws g) (hs : swapsWithSole [tg] e pos.line (envS sc) = pure false) (hw : swappedStores [tg] e (envS sc) = pure none) (h1 : (assignEach [tg] X.env).map (·.2) = [assign tg X.env] := by rfl) : DS X (.Assign [tg] e pos) (qAsg te g) := by
  obtain ⟨t1, p1, a1⟩ := he
  obtain ⟨t2, p2, a2⟩ := hg
  refine ⟨⟨_, ps_asg p1 p2 ((swapsS_S c _ _ _).trans hs) ((swapped_S c _ _).trans hw) h1, fun F σ H ε st Dd D R E h kk => ?_⟩⟩
  refine a1 F σ H ε st _ _ R E h fun F1 v H1 x st1 s1 R1 r q => ?_
  exact a2 F1 σ H1 ε st1 v x _ _ R1 (E.mono s1.ex) r q fun F2 σ2 H2 ε2 st2 s2 R2 E2 _ q2 => kk.nx F2 σ2 H2 ε2 st2 (s1.trans s2) R2 E2 q2
/-- a, b = x, y stored from the right -/
def qPar (i j : Nat) (ta : TDa) : TDs := fun D ε st => ta ε st fun xs s1 => match xs with | [x, y] => D.nx ((ε.set i (some x)).set j (some y)) s1 | _ => False
def parB (N : List Str) (sc : Scope) (i j : Nat) (x y : Str) : Bool := decide (N[i]? = some x) && decide (N[j]? = some y) && decide (i ≠ j) && decide (sc.names.lookup x = some .local) && decide (sc.names.lookup y = some .local)
theorem ds_par {i j : Nat} {x y : Str} {a b : Expr} {ta : TDa} {px py pt pos : Pos} {kt k2 pt2} (c : Cok P w K mg base X N sc fs k) (hb : parB N sc i j x y = true) (ha : DA X [a, b] ta)
    (hw : swappedStores [.Tuple [.Name x px, .Name y py] kt pt] (.Tuple [a, b] k2 pt2) (envS sc) = pure (some [x, y])) :
    DS X (.Assign [.Tuple [.Name x px, .Name y py] kt pt] (.Tuple [a, b] k2 pt2) pos) (qPar i j ta) := by
  unfold parB at hb
  simp only [Bool.and_eq_true, decide_eq_true_eq] at hb
  obtain ⟨⟨⟨⟨h1, h2⟩, h3⟩, h4⟩, h5⟩ := hb
  obtain ⟨t1, p1, a1⟩ := ha
  refine ⟨⟨_, ps_par c.calm (by rw [c.hN]; exact c.nd) (by rw [c.hN]; exact h1) (by rw [c.hN]; exact h2) h3 (by rw [c.hs]; exact h4) (by rw [c.hs]; exact h5) p1 ((swapped_S c _ _).trans hw), fun F σ H ε st Dd D R E h kk => ?_⟩⟩
  refine a1 F σ H ε st _ _ R E h fun F1 v H1 x st1 s1 R1 r q => ?_
  split at q
  · cases r with
    | cons r1 r =>
      cases r with
      | cons r2 r =>
        cases r
        exact ⟨_, _, rfl, kk.nx F1 _ H1 _ st1 s1 R1 (((E.mono s1.ex).set r1 i).set r2 j) q⟩
  · exact q.elim
def qPar3 (i j l : Nat) (ta : TDa) : TDs := fun D ε st => ta ε st fun xs s1 => match xs with | [x, y, z] => D.nx (((ε.set i (some x)).set j (some y)).set l (some z)) s1 | _ => False
/-- name op= e, ints -/
def qAug (i : Nat) (te : TD) (g : Int → Int → Int) : TDs := fun D ε st => match ε[i]? with
  | some (some (.d (.int a))) => te ε st fun y s1 => (match y with | .d (.int b) => D.nx (ε.set i (some (.d (.int (g a b))))) s1 | _ => False)
  | _ => False
theorem ds_aug {i : Nat} {x : Str} {e : Expr} {te : TD} {op : Operator} {g : Int → Int → Int} {pos' pos : Pos} (c : Cok P w K mg base X N sc fs k) (hb : locB N sc fs i x = true) (ho : PIp X op (ipI g)) (he : DE X e te) : DS X (.AugAssign (.Name x pos') op e pos) (qAug i te g) := by
  obtain ⟨h1, h2, h3⟩ := loc_of c hb
  obtain ⟨t1, p1, a1⟩ := he
  refine ⟨⟨_, ps_aug (by rw [c.hN]; exact c.nd) h1 h2 p1 ho h3, fun F σ H ε st Dd D R E h kk => ?_⟩⟩
  unfold qAug at h
  split at h
  · rename_i a e1
    obtain ⟨v, e2, r⟩ := E.2 i _ e1
    cases rv_int r
    refine ⟨_, e2, a1 F σ H ε st _ _ R E h fun F1 v H1 x st1 s1 R1 r1 q => ?_⟩
    split at q
    · cases rv_int r1
      exact ⟨a, _, rfl, rfl, kk.nx F1 _ H1 _ st1 s1 R1 ((E.mono s1.ex).set (.d (.int _)) i) q⟩
    · exact q.elim
  · exact h.elim
/-- the invariant W with its measure -/
def qWhile (c : TDt) (tb : TDs) : TDs := fun D ε st => ∃ W : Nat → Env → Sto → Prop, (∃ m, W m ε st) ∧ ∀ m ε st, W m ε st →
  c ε st fun b s1 => if b = true then tb { D with nx := fun ε' s' => ∃ m', m' < m ∧ W m' ε' s', ct := fun ε' s' => ∃ m', m' < m ∧ W m' ε' s', bk := D.nx } ε s1 else D.nx ε s1
theorem ds_while {e : Expr} {body : List Stmt} {pos : Pos} {tc : TDt} {tb : TDs} (c : Cok P w K mg base X N sc fs k) (hc : DT X e tc) (hb : DSs X body tb) : DS X (.While e body [] pos) (qWhile tc tb) := by
  obtain ⟨t0, p0, a0⟩ := hc
  obtain ⟨t1, p1, a1⟩ := hb
  refine ⟨⟨_, ps_while c.pass p0 p1, fun F σ H ε st Dd D R E h kk => ?_⟩⟩
  obtain ⟨W, ⟨m0, h0⟩, hW⟩ := h
  refine ⟨fun m σ' H' => ∃ F' ε' st', Step F H st F' H' st' ∧ Rs X.K F' H' st' ∧ RE X.K F' σ' ε' ∧ W m ε' st', ⟨m0, F, ε, st, Step.refl _ _ _, R, E, h0⟩, ?_⟩
  rintro m σ' H' ⟨F1, ε1, st1, s1, R1, E1, w1⟩
  refine a0 F1 σ' H' ε1 st1 _ _ R1 E1 (hW m ε1 st1 w1) fun F2 b H2 b' st2 s2 R2 r q => ?_
  cases r
  cases b with
  | true =>
    refine ⟨fun σ3 H3 => ∃ m', m' < m ∧ ∃ F3 ε3 st3, Step F H st F3 H3 st3 ∧ Rs X.K F3 H3 st3 ∧ RE X.K F3 σ3 ε3 ∧ W m' ε3 st3, fun σ3 H3 ⟨m', l, q⟩ => ⟨m', l, q⟩, ?_⟩
    have s12 := s1.trans s2
    refine a1 F2 σ' H2 ε1 st2 _ _ R2 (E1.mono s2.ex) q ⟨?_, (kk.step s12).rt, (kk.step s12).nx, ?_⟩
    · rintro F3 σ3 H3 ε3 st3 s3 R3 E3 ⟨m', l, w3⟩
      exact ⟨m', l, F3, ε3, st3, s12.trans s3, R3, E3, w3⟩
    · rintro F3 σ3 H3 ε3 st3 s3 R3 E3 ⟨m', l, w3⟩
      exact ⟨m', l, F3, ε3, st3, s12.trans s3, R3, E3, w3⟩
  | false => exact kk.nx F2 σ' H2 ε1 st2 (s1.trans s2) R2 (E1.mono s2.ex) q
def qLoop (inv : Sto → Prop) (g : TDg) (tb : TDs) (D : EndsD) : List DV → Env → Sto → Prop
  | [], ε, st => inv st ∧ D.nx ε st
  | x :: r, ε, st => inv st ∧ g x ε st fun ε1 s1 => tb { D with nx := qLoop inv g tb D r, ct := qLoop inv g tb D r, bk := D.nx } ε1 s1
def qFor (ti : TDi) (g : TDg) (tb : TDs) : TDs := fun D ε st => ti ε st fun items inv s1 => qLoop inv g tb D items ε s1
theorem qLoop_inv {inv : Sto → Prop} {g : TDg} {tb : TDs} {D : EndsD} {l : List DV} {ε : Env} {st : Sto} (h : qLoop inv g tb D l ε st) : inv st := by
  cases l with
  | nil => exact h.1
  | cons x r => exact h.1
theorem ds_for {tg iter : Expr} {body : List Stmt} {pos : Pos} {ws : List Nat} {ti : TDi} {g : TDg} {tb : TDs} (c : Cok P w K mg base X N sc fs k) (hi : DI X tg iter ti) (hg : DG X tg ws g) (hb : DSs X body tb) (hs : ∀ x, foldedSetIterable iter X.env x = pure x := by intro _; rfl) : DS X (.For tg iter body [] pos) (qFor ti g tb) := by
  obtain ⟨wi, p0, a0⟩ := hi
  obtain ⟨gg, p1, a1⟩ := hg
  obtain ⟨ts, p2, a2⟩ := hb
  refine ⟨⟨_, ps_for c.pass c.calm p0 p1 p2 hs, fun F σ H ε st Dd D R E h kk => ?_⟩⟩
  refine a0 F σ H ε st _ _ R E h fun F1 J H1 items inv st1 s1 R1 src q => ?_
  refine ⟨fun i m σ' H' => i ≤ items.length ∧ m = items.length - i ∧ ∃ F' ε' st', Step F1 H1 st1 F' H' st' ∧ Rs X.K F' H' st' ∧ RE X.K F' σ' ε' ∧ qLoop inv g tb Dd (items.drop i) ε' st',
    ⟨items.length, Nat.zero_le _, by omega, F1, ε, st1, Step.refl _ _ _, R1, E.mono s1.ex, by rw [List.drop_zero]; exact q⟩, ?_⟩
  rintro i m σ' H' ⟨hi, rfl, F2, ε2, st2, s2, R2, E2, q2⟩
  have iv := qLoop_inv q2
  obtain ⟨src1, src2⟩ := src F2 H' st2 s2.ex R2 iv
  have s12 := s1.trans s2
  by_cases hlt : i < items.length
  · have ed : items.drop i = items[i] :: items.drop (i + 1) := List.drop_eq_getElem_cons hlt
    rw [ed] at q2
    obtain ⟨go, yl⟩ := src1 i items[i] (List.getElem?_eq_getElem hlt)
    refine .inr ⟨go, fun σ' H' => ∃ F' ε' st', Step F1 H1 st1 F' H' st' ∧ Rs X.K F' H' st' ∧ RE X.K F' σ' ε' ∧ qLoop inv g tb Dd (items.drop (i + 1)) ε' st', fun σ3 H3 q3 => ⟨items.length - (i + 1), by omega, hlt, rfl, q3⟩, fun v H3 y => ?_⟩
    obtain ⟨F3, s3, R3, r3⟩ := yl v H3 y
    refine a1 F3 σ' H3 ε2 st2 v items[i] _ _ R3 (E2.mono s3.ex) r3 q2.2 fun F4 σ4 H4 ε4 st4 s4 R4 E4 _ q4 => ?_
    have s24 := s2.trans (s3.trans s4)
    refine a2 F4 σ4 H4 ε4 st4 _ _ R4 E4 q4 ⟨?_, (kk.step (s1.trans s24)).rt, (kk.step (s1.trans s24)).nx, ?_⟩
    · exact fun F5 σ5 H5 ε5 st5 s5 R5 E5 q5 => ⟨F5, ε5, st5, s24.trans s5, R5, E5, q5⟩
    · exact fun F5 σ5 H5 ε5 st5 s5 R5 E5 q5 => ⟨F5, ε5, st5, s24.trans s5, R5, E5, q5⟩
  · have e : i = items.length := by omega
    subst e
    rw [List.drop_length] at q2
    exact .inl ⟨src2, kk.nx F2 σ' H' ε2 st2 s12 R2 E2 q2.2⟩
theorem Step.hid {F H F' H' : Hp} {st st' : Sto} {p : Addr} {o : HO} (s : Step F H st F' H' st') (h : H p = some o) (f : F p = none) (e : st p = none) (ht : ∀ ts, o ≠ .tup ts := by intro _ z; cases z) (hn : NoTb o := by intro _ z; cases z) : H' p = some o ∧ F' p = none ∧ st' p = none := by
  obtain ⟨h1, h2⟩ := s.pres p o h hn e
  refine ⟨h1, ?_, h2⟩
  cases q : F' p with
  | none => rfl
  | some u =>
    rcases s.fnew p u q with z | z | z | ⟨ts, z⟩ | ⟨ps, z⟩
    · exact absurd f z
    · rw [h] at z; cases z
    · exact absurd e z
    · rw [h] at z
      cases z
      exact absurd rfl (ht ts)
    · rw [h] at z
      cases z
      exact absurd rfl (hn ps)
/-- a hidden list comes into sight -/
theorem seen_lst {F0 H0 F H : Hp} {st0 st : Sto} {p : Addr} {vs : List V} {xs : List DV} {m : Bool} {Qd : DV → Sto → Prop} {Q : VK} (R0 : Rs K F0 H0 st0) (s : Step F0 H0 st0 F H st) (h0 : H0 p = none) (R : Rs K F H st) (hp : H p = some (.lst vs)) (f : F p = none) (e : st p = none) (r : RVs K F vs xs)
    (q : newL m xs st Qd) (kk : Kg (RV K) K F0 H0 st0 Qd Q) : Q (.ref p) H := by
  cases m with
  | true =>
    have ss : Step F0 H0 st0 F H (up st p (.lst xs)) := s.seen h0
    refine kk F (.ref p) H (.r p) (up st p (.lst xs)) ss (R0.by ⟨fun a u ha => ?_, fun a m ha => ?_, R.tb.up hp⟩ ss) (.r p) (q p e)
    · rw [up_ne (fun z => by rw [z, f] at ha; cases ha)]; exact R.sub a u ha
    · by_cases z : a = p
      · subst z; rw [up_same] at ha; cases ha; exact ⟨vs, hp, r⟩
      · rw [up_ne z] at ha; exact R.ok a m ha
  | false =>
    unfold newL at q
    simp only at q
    split at q
    rotate_left
    · exact q.elim
    rename_i ds ed
    have ed2 := datas_eq ed
    subst ed2
    have ex : ∀ a o, F a = some o → upd F p (.lst vs) a = some o := fun a o ha => by rw [upd_ne (fun z => by rw [z, f] at ha; cases ha)]; exact ha
    have ss : Step F0 H0 st0 (upd F p (.lst vs)) H st := ⟨fun a o ha => ex a o (s.ex a o ha), s.pres, fun a u ha => by
      by_cases z : a = p
      · subst z; exact .inr (.inl h0)
      · rw [upd_ne z] at ha; exact s.fnew a u ha⟩
    refine kk (upd F p (.lst vs)) (.ref p) H (.d (.list ds)) st ss (R0.by ⟨fun a u ha => ?_, fun a m ha => MOk.mono ex rfl (R.ok a m ha), R.tb.see hp⟩ ss) (.d (.lst (SqL.of upd_same) (r.mono ex).all)) q
    · by_cases z : a = p
      · subst z; rw [upd_same] at ha; cases ha; exact ⟨hp, e⟩
      · rw [upd_ne z] at ha; exact R.sub a u ha
def qComp (inv : Sto → Prop) (g : TDg) (tt : TDt) (te : TD) (ε : Env) (Kc : List DV → Sto → Prop) : List DV → List DV → Sto → Prop
  | [], acc, st => inv st ∧ Kc acc st
  | x :: r, acc, st => inv st ∧ g x ε st fun ε1 s1 => tt ε1 s1 fun b s2 => if b = true then te ε1 s2 fun y s3 => qComp inv g tt te ε Kc r (acc ++ [y]) s3 else qComp inv g tt te ε Kc r acc s2
theorem qComp_inv {inv : Sto → Prop} {g : TDg} {tt : TDt} {te : TD} {ε : Env} {Kc : List DV → Sto → Prop} {l acc : List DV} {st : Sto} (h : qComp inv g tt te ε Kc l acc st) : inv st := by
  cases l with
  | nil => exact h.1
  | cons x r => exact h.1
def qLc (m : Bool) (ti : TDi) (g : TDg) (tt : TDt) (te : TD) (vs : List Nat) : TD := fun ε st Q => ti ε st fun items inv s1 => items.length ≤ sizeLine ∧ qComp inv g tt te (wipeD ε vs) (fun acc s2 => newL m acc s2 Q) items [] s1
structure DTs (X : Cx) (ifs : List Expr) (t : TDt) : Prop where
  ex : ∃ te, PTs X ifs te ∧ Sg relT X.K te t
def qYes : TDt := fun _ st Q => Q true st
theorem dts_nil : DTs X [] qYes := ⟨⟨_, pts_nil, fun F σ H ε st Qd Q R E h kk => kk.at R rfl h⟩⟩
theorem dts_one {e : Expr} {t : TDt} (h : DT X e t) : DTs X [e] t := let ⟨te, p, a⟩ := h.ex; ⟨⟨te, pts_one p, a⟩⟩
theorem Cok.blk (c : Cok P w K mg base X N sc fs k) {scope : Scope} (hk : scope.kind = .function) (s : Shared) (H : Hp) (C : Addr) (cl : List (Str × Addr)) (fp : List Addr) :
    Cok P w K mg base (X.blk s H scope (compEnvC scope cl C X.env) fp) N (relS scope sc) scope k where
  hP := c.hP
  hw := c.hw
  hK := c.hK
  hmg := c.hmg
  hb := c.hb
  hN := c.hN
  nd := c.nd
  kind := hk
  hs := by
    show relabel scope X.env = relS scope sc
    have e := c.hs
    unfold relabel relS PySem.Env.kindOf
    rw [e]
  calm := c.calm
  fn := fun x h => by
    show (scope.names.lookup x == some NameKind.cell) = true
    rw [h]
    rfl
  room := c.room
  pass := fun _ _ h => h.elim
theorem comp_sim {wi : TI} {g : TG} {tt : TT} {te : TE} {ti : TDi} {gd : TDg} {ttd : TDt} {ted : TD} {m : Bool} {vs ws : List Nat} (hv : ∀ i ∈ ws, i ∈ vs)
    (a0 : ∀ F σ H ε st Qd R', Rs K F H st → RE K F σ ε → ti ε st Qd → (∀ F' J H' items inv st', Step F H st F' H' st' → Rs K F' H' st' → Src K F' J items inv → Qd items inv st' → R' J H') → wi σ H R')
    (a1 : ∀ F σ H ε st v x Qd Q, Rs K F H st → RE K F σ ε → RV K F v x → gd x ε st Qd → (∀ F' σ' H' ε' st', Step F H st F' H' st' → Rs K F' H' st' → RE K F' σ' ε' → (∀ vs : List Nat, (∀ i ∈ ws, i ∈ vs) → wipe σ' vs = wipe σ vs) → Qd ε' st' → Q σ' H') → g v σ H Q)
    (a2 : Sg relT K tt ttd) (a3 : Sg (RV K) K te ted) : Sg (RV K) K (tLc wi g tt te vs) (qLc m ti gd ttd ted vs) := by
  intro F σ H ε st Qd Q R E h kk
  refine a0 F σ H ε st _ _ R E h fun F1 J H1 items inv st1 s1 R1 src q => ?_
  intro D hD
  obtain ⟨hsz, q⟩ := q
  obtain ⟨f0, d0⟩ := R1.free hD
  obtain ⟨R1', s1'⟩ := R1.hide (o := .lst []) hD
  refine ⟨fun i mm H' => i ≤ items.length ∧ mm = items.length - i ∧ ∃ F' st' acc accD, Step F1 H1 st1 F' H' st' ∧ Rs K F' H' st' ∧ H' D = some (.lst acc) ∧ F' D = none ∧ st' D = none ∧ RVs K F' acc accD ∧ acc.length ≤ i ∧ qComp inv gd ttd ted (wipeD ε vs) (fun acc s2 => newL m acc s2 Qd) (items.drop i) accD st',
    ⟨items.length, Nat.zero_le _, by omega, F1, st1, [], [], s1', R1', upd_same, f0, d0, .nil, Nat.le_refl _, by rw [List.drop_zero]; exact q⟩, ?_⟩
  rintro i mm H2 ⟨hi, rfl, F2, st2, acc, accD, s2, R2, hD2, f2, d2, r2, hl, q2⟩
  have iv := qComp_inv q2
  obtain ⟨src1, src2⟩ := src F2 H2 st2 s2.ex R2 iv
  by_cases hlt : i < items.length
  · have ed : items.drop i = items[i] :: items.drop (i + 1) := List.drop_eq_getElem_cons hlt
    rw [ed] at q2
    obtain ⟨go, yl⟩ := src1 i items[i] (List.getElem?_eq_getElem hlt)
    refine .inr ⟨go, fun H' => ∃ F' st' acc accD, Step F1 H1 st1 F' H' st' ∧ Rs K F' H' st' ∧ H' D = some (.lst acc) ∧ F' D = none ∧ st' D = none ∧ RVs K F' acc accD ∧ acc.length ≤ i + 1 ∧ qComp inv gd ttd ted (wipeD ε vs) (fun acc s2 => newL m acc s2 Qd) (items.drop (i + 1)) accD st',
      fun H' q' => ⟨items.length - (i + 1), by omega, hlt, rfl, q'⟩, fun v H3 y => ?_⟩
    obtain ⟨F3, s3, R3, r3⟩ := yl v H3 y
    have E3 : RE K F3 (wipe σ vs) (wipeD ε vs) := (E.mono (s1.trans (s2.trans s3)).ex).wipe vs
    refine a1 F3 _ H3 _ st2 v items[i] _ _ R3 E3 r3 q2.2 fun F4 σ4 H4 ε4 st4 s4 R4 E4 w4 q4 => ?_
    refine ⟨(w4 vs hv).trans (wipe_idem σ vs), ?_⟩
    refine a2 F4 σ4 H4 ε4 st4 _ _ R4 E4 q4 fun F5 b H5 b' st5 s5 R5 rb q5 => ?_
    cases rb
    have s25 := s2.trans (s3.trans (s4.trans s5))
    obtain ⟨hD5, f5, d5⟩ := (s3.trans (s4.trans s5)).hid hD2 f2 d2
    cases b with
    | true =>
      refine a3 F5 σ4 H5 ε4 st5 _ _ R5 (E4.mono s5.ex) q5 fun F6 y H6 y' st6 s6 R6 ry q6 => ?_
      obtain ⟨hD6, f6, d6⟩ := s6.hid hD5 f5 d5
      refine ⟨acc, hD6, by omega, F6, st6, acc ++ [y], accD ++ [y'], (s25.trans s6).hput hD, R6.hput f6 d6 hD6 R1 (s25.trans s6) hD, upd_same, f6, d6, (r2.mono ((s3.trans (s4.trans s5)).trans s6).ex).append (.cons ry .nil), by rw [List.length_append]; simp only [List.length_singleton]; omega, q6⟩
    | false => exact ⟨F5, st5, acc, accD, s25, R5, hD5, f5, d5, r2.mono (s3.trans (s4.trans s5)).ex, by omega, q5⟩
  · have e : i = items.length := by omega
    subst e
    rw [List.drop_length] at q2
    exact .inl ⟨src2, seen_lst R1 s2 hD R2 hD2 f2 d2 r2 q2.2 (kk.step s1)⟩
where
  wipe_idem (σ : L2.St) (vs : List Nat) : wipe (wipe σ vs) vs = wipe σ vs := by
    have h : ∀ us : List Nat, (∀ i ∈ us, i ∈ vs) → wipe (wipe σ us) vs = wipe σ vs := by
      intro us
      induction us with
      | nil => intro _; rfl
      | cons j us ih =>
        intro hu
        show wipe ((wipe σ us).set j none) vs = _
        rw [wipe_set (hu j List.mem_cons_self)]
        exact ih fun i hi => hu i (List.mem_cons_of_mem _ hi)
    exact h vs fun _ z => z
end
end DL
end
section
set_option Elab.async false
set_option linter.all false
set_option maxRecDepth 100000
set_option maxHeartbeats 4000000
namespace DLM
open PySem PySem.Spec
open AutoSeq1 (wpAny_loadPart')
theorem meets_enumerate_newT (l : Addr) (items : Array Value) (n : Nat) (dct : Option Addr) (sl : Array (Option Value)) :
    Meets (Builtin.«enumerate.__new__» ⟨[.type "enumerate", .ref l], []⟩) (fun _ R s => s.heap.get? l = some { cls := .type "tuple", dict := dct, data := .seq items n, slots := sl } ∧
      R (.ok (.ret (.ref (s.heap.push { cls := .type "tuple_iterator", data := .fields #[.ref l, .int 0 0] }).objs.size)))
        { s with heap := (s.heap.push { cls := .type "tuple_iterator", data := .fields #[.ref l, .int 0 0] }).push { cls := .type "enumerate", data := .fields #[.none, .bool false, .ref s.heap.objs.size, rawInt 0, .none, .none] } }) :=
  .of_wp fun prog w A R s h => by
    obtain ⟨hp, g, d, tk, os⟩ := s; obtain ⟨hl, h⟩ := h
    have hsub := sub_enumerate
    have hL : Heap.IsTuple (Shared.heap ⟨hp, g, d, tk, os⟩) l items := ⟨_, hl, rfl, n, rfl⟩
    wp_walk using wpAny_loadPart' hl
    refine wpAny_stack_any fun st => wpAny_pure ?_
    split
    · rename_i c _ _ _ _ _
      cases (c == Value.type "enumerate")
      · wp_walk using wpAny_loadPart' hl, wpAny_pyIter_tuple hL
        exact ⟨_, rfl, h⟩
      · wp_walk using wpAny_loadPart' hl, wpAny_pyIter_tuple hL
        exact ⟨_, rfl, h⟩
    · wp_walk using wpAny_loadPart' hl, wpAny_pyIter_tuple hL
      exact ⟨_, rfl, h⟩
section
variable {prog : Program} {w : World} {A : Around} {E : Value → Shared → Prop} {s : Shared}
theorem call_enumerate_tuple {l : Addr} {items : Array Value} {Q : Value → Shared → Prop} (hL : s.heap.IsTuple l items)
    (h : ∀ h', IsEnum h' (s.heap.objs.size + 1) s.heap.objs.size 0 .none → h'.IsTupleIter s.heap.objs.size l 0 → h'.objs.size = s.heap.objs.size + 2 →
      (∀ b o, s.heap.get? b = some o → h'.get? b = some o) → Q (.ref (s.heap.objs.size + 1)) { s with heap := h' }) :
    wpAny (model prog w) A (call (.type "enumerate") [.ref l]) Q E s := by
  obtain ⟨⟨c, dct, dt, sl⟩, hl, hc, n, hd⟩ := hL
  replace hc : c = .type "tuple" := hc
  replace hd : dt = .seq items n := hd
  subst hc hd
  refine callType_new F.called_enumerate (by decide) (F.typeCall_enumerate_1 _) (F.newCall_enumerate_1 _) (fun obj => F.args_object_init_2 obj _) F.entry_enumerate_new
    (meets_enumerate_newT l items n dct sl) ⟨hl, ?_⟩
  have hz : (s.heap.push { cls := .type "tuple_iterator", data := .fields #[.ref l, .int 0 0] }).objs.size = s.heap.objs.size + 1 := Heap.size_push ..
  show _ ∧ _
  rw [hz]
  have he : IsEnum ((s.heap.push { cls := .type "tuple_iterator", data := .fields #[.ref l, .int 0 0] }).push
      { cls := .type "enumerate", data := .fields #[.none, .bool false, .ref s.heap.objs.size, rawInt 0, .none, .none] }) (s.heap.objs.size + 1) s.heap.objs.size 0 .none := by
    have := Heap.get?_push_size (s.heap.push { cls := .type "tuple_iterator", data := .fields #[.ref l, .int 0 0] })
      (o := { cls := .type "enumerate", data := .fields #[.none, .bool false, .ref s.heap.objs.size, rawInt 0, .none, .none] }) rfl
    rw [hz] at this; exact this
  refine ⟨⟨_, he, rfl⟩, h _ he ⟨_, Heap.get?_push_of_some _ (Heap.get?_push_size _ rfl), rfl, rfl⟩ (by rw [Heap.size_push, hz]) fun b o x => Heap.get?_push_of_some _ (Heap.get?_push_of_some _ x)⟩
end
end DLM
namespace L2
open PySem PySem.Spec PyProof.Rows
def IteT (K : PySem.W.Frag) (a : Addr) : It :=
  ⟨fun i H => ∃ (xs : List V) (x : V), SqT K H a xs ∧ xs[i]? = some x, fun i H v H' => ∃ T x, v = .ref T ∧ H T = none ∧ H' = upd H T (.tup [.int (i : Nat), x]) ∧ ∀ xs, SqT K H a xs → xs[i]? = some x, fun i H => ∃ xs : List V, SqT K H a xs ∧ xs.length ≤ i⟩
theorem turn_enumT {P : Program} {w : World} {K : PySem.W.Frag} {elts : List Expr} {kk : Nat} {tpos : Pos} (a e it : Addr) :
    Turn P w K (.Tuple elts kk tpos) (IteT K a) [e, it] e (fun i h => (∃ old, IsEnum h e it ((i : Nat) : Int) old) ∧ h.IsTupleIter it a i ∧ e ≠ it) where
  mem := by simp
  obj := fun i h st b hb => by
    obtain ⟨⟨old, he⟩, ⟨o, ho, hc, hd⟩, _⟩ := st
    have e' : b = e ∨ b = it := by simpa using hb
    rcases e' with z | z
    · rw [z]; exact ⟨_, he, fun v q => nomatch q⟩
    · rw [z]; exact ⟨o, ho, fun v q => by rw [hd] at q; cases q⟩
  keep := fun i h h' st k => let ⟨⟨old, he⟩, hi, hne⟩ := st; ⟨⟨old, k e (by simp) _ he⟩, hi.at fun o q => k it (by simp) o q, hne⟩
  item := by
    intro X hP hw hK hc i pins s σ H E I hf st hg
    subst hP hw hK
    obtain ⟨⟨old, he⟩, hit, hne⟩ := st
    obtain ⟨xs, x, hq, hx⟩ := hg
    obtain ⟨its, rv, p, hz⟩ := I.tuple hq
    obtain ⟨u, hu, ru⟩ := rv.get hx
    have hel : e < s.heap.objs.size := Heap.lt_size he
    have hil : it < s.heap.objs.size := by obtain ⟨_, q, _⟩ := hit; exact Heap.lt_size q
    have hi : i < its.toArray.size := by
      have := (List.getElem?_eq_some_iff.mp hu).1
      simpa using this
    have hai : a ≠ it := by
      obtain ⟨o1, q1, c1, _⟩ := id p
      obtain ⟨o2, q2, c2, _⟩ := id hit
      intro z
      rw [z, q2] at q1
      cases q1
      rw [c1] at c2
      exact absurd (Value.type.inj c2) (by decide)
    have hae : e ≠ a := by
      obtain ⟨o1, q1, c1, _⟩ := id p
      intro z
      rw [← z, he] at q1
      cases q1
      exact absurd (Value.type.inj c1) (by decide)
    have D := PySem.Draws.tuple (prog := X.prog) (w := X.w) (A := X.A.in1) (I.ok.hd hc) it a hai its.toArray
    refine wpAny_pyNext_enum_itemD D he ⟨hit, p⟩ hi hne (by simp [hne, hae]) fun y h' tk hP ho hst hT hsz hk => ?_
    have ey : y = u := by
      rw [List.getElem?_toArray, hu] at hP
      exact (Option.some.inj hP).symm
    subst ey
    refine ⟨_, rfl, wpAny_letOwnedTupleGo_enum (s := { s with heap := h', toks := tk + 1 }) ho fun h'' he' sb => ?_⟩
    have hT2 : h''.get? s.heap.objs.size = some { cls := .type "tuple", data := .seq #[.int i tk, y] } := (sb.2 _ (Nat.ne_of_gt hel)).trans hT
    have new : ObjOk X.prog X.w (upd H s.heap.objs.size (.tup [.int (i : Nat), x])) h'' s.heap.objs.size (.tup [.int (i : Nat), x]) :=
      ⟨by show 2 ≤ sizeLine; decide, [.int i tk, y], .cons ⟨_, rfl⟩ (.cons ru .nil), ⟨_, hT2, rfl, _, rfl⟩⟩
    have I1 : Inv X pins σ (upd H s.heap.objs.size (.tup [.int (i : Nat), x])) { s with heap := h'', toks := tk + 1 } :=
      I.turnedNew (ch := [e, it]) (fun b ob hb q => (sb.2 b (fun z => hb (by simp [z]))).trans (hk b ob (fun z => hb (by simp [z])) (fun z => hb (by simp [z])) q)) hf (Nat.le_refl _) new
    refine ⟨.ref s.heap.objs.size, _, I1, rfl, ⟨_, x, rfl, I.hok.fresh (Nat.le_refl _), rfl, fun ys hy => by rw [I.tuple_inj hy hq]; exact hx⟩, ⟨⟨y, ?_⟩, hst.1.at fun o q => (sb.2 it (Ne.symm hne)).trans q, hne⟩, fun b hb => ?_⟩
    · have e1 : ((i + 1 : Nat) : Int) = (i : Int) + 1 := by omega
      rw [e1]; exact he'
    · have hb' : b < s.heap.objs.size := by
        have e' : b = e ∨ b = it := by simpa using hb
        rcases e' with z | z
        · rw [z]; exact hel
        · rw [z]; exact hil
      rw [upd_ne (Nat.ne_of_lt hb')]
      exact (hf b hb).1
  done := by
    intro X hP hw hK hc i pins s σ H E I hf st hg
    subst hP hw hK
    obtain ⟨⟨old, he⟩, hit, hne⟩ := st
    obtain ⟨xs, hq, hx⟩ := hg
    obtain ⟨its, rv, p, hz⟩ := I.tuple hq
    obtain ⟨f0, f1, f2, f3, f4, f5⟩ := hf it (by simp)
    have hl := rv.length
    have hT : s.TypeIs (.ref e) "enumerate" := ⟨_, he, rfl⟩
    unfold pyNext
    refine wpAny_bind (wpAny_attempt (wpAny_callSpecial?_slot (name := Str.ofString "__next__") hT F.slot_enumerate_next
      (wpAny_call_entry F.slot_enumerate_next hT F.entry_enumerate_next ?_ (F.args_enumerate_next_1 _))))
    show wpAny _ _ (field (.ref e) 2 >>= _) _ _ _
    refine wpAny_bind (wpAny_field he rfl (x := .ref it) rfl ?_)
    refine wpAny_bind (wpAny_nextOf_tuple_end (I.ok.hd hc) hit p (by simp; omega) fun h' y he' hx' => ?_)
    obtain ⟨o, ho, hc⟩ := hx'
    refine wpAny_bind (wpAny_isInstance (T := "StopIteration") (b := true) ⟨o, ho, hc⟩ isSubtype_stop ?_)
    exact wpAny_pure ⟨rfl, I.turned (t' := s.toks) (fun b o hb q => he' b o hb q) f0 f1 f3 f4 f5⟩
  self := fun A i s Q E st h => let ⟨⟨_, he⟩, _⟩ := st; wpAny_pyIter_enum he h
def iEnumA (K : PySem.W.Frag) (ta : TA) : TI := fun σ H R => ta σ H fun vs H1 => ∃ a xs, vs = [.ref a] ∧ ((SqL K H1 a xs ∧ R (Ite K a) H1) ∨ (SqT K H1 a xs ∧ R (IteT K a) H1))
theorem pi_enumA {X : Cx} {e : Expr} {ta : TA} {p pos tpos : Pos} {elts : List Expr} {kk : Nat} (hg : Gl X "enumerate") (hm : X.mg "enumerate" = none) (ha : PA X [e] ta) (hs : starEach [e] X.env = [(false, eval e X.env)] := by rfl) :
    PI X (.Tuple elts kk tpos) (.Call (.Name "enumerate" p) [e] [] pos) (iEnumA X.K ta) := by
  refine ⟨fun pins s σ H R I h => ?_⟩
  refine Call_ (ld_blt I hg hm boot_enumerate (PyProof.Rows.callWith_type1 (thn (ha.run pos pins s σ H _ I h) fun us s1 ⟨vs, H1, I1, r1, q1⟩ => ?_) hs rfl))
  obtain ⟨a, xs, ex, q⟩ := q1
  subst ex
  cases r1 with
  | cons r rr =>
    cases rr
    cases r
    have fresh2 : ∀ b, b ∈ [s1.heap.objs.size + 1, s1.heap.objs.size] → FpOk X pins H1 b := fun b hb => by
      have e' : b = s1.heap.objs.size + 1 ∨ b = s1.heap.objs.size := by simpa using hb
      have hle : s1.heap.objs.size ≤ b := by
        rcases e' with z | z
        · rw [z]; exact Nat.le_add_right _ _
        · rw [z]; exact Nat.le_refl _
      exact I1.fpOk hle (I1.hok.fresh hle)
    rcases q with ⟨hq, q⟩ | ⟨hq, q⟩
    · obtain ⟨its, rv, p', hz⟩ := I1.list hq
      refine call_enumerate_list p'.isList fun h' he hit hsz hk => wpAny_pyIter_enum he ?_
      have I2 : Inv X pins σ H1 { s1 with heap := h' } := I1.kept (t' := s1.toks) hk
      exact ⟨s1.heap.objs.size + 1, [s1.heap.objs.size + 1, s1.heap.objs.size], _, _, H1, rfl, I2, turn_enum a (s1.heap.objs.size + 1) s1.heap.objs.size, ⟨⟨.none, he⟩, hit, Nat.succ_ne_self _⟩, fresh2, q⟩
    · obtain ⟨its, rv, p', hz⟩ := I1.tuple hq
      refine DLM.call_enumerate_tuple (show s1.heap.IsTuple a its.toArray from p') fun h' he hit hsz hk => wpAny_pyIter_enum he ?_
      have I2 : Inv X pins σ H1 { s1 with heap := h' } := I1.kept (t' := s1.toks) hk
      exact ⟨s1.heap.objs.size + 1, [s1.heap.objs.size + 1, s1.heap.objs.size], _, _, H1, rfl, I2, turn_enumT a (s1.heap.objs.size + 1) s1.heap.objs.size, ⟨⟨.none, he⟩, hit, Nat.succ_ne_self _⟩, fresh2, q⟩
def iSeq (K : PySem.W.Frag) (tl : TE) : TI := fun σ H R => tl σ H fun x H1 => ∃ a xs, x = .ref a ∧ ((SqL K H1 a xs ∧ R (Itl K a) H1) ∨ (SqT K H1 a xs ∧ R (Itt K a) H1))
theorem pi_seq {X : Cx} {tg l : Expr} {tl : TE} (hl : PE X l tl) : PI X tg l (iSeq X.K tl) := by
  refine ⟨fun pins s σ H R I h => ?_⟩
  refine thn (hl.run pins s σ H _ I h) fun v s1 ⟨x, H1, I1, r1, q1⟩ => ?_
  obtain ⟨a, xs, e, q⟩ := q1
  subst e
  cases r1
  have fresh1 : ∀ b, b ∈ [s1.heap.objs.size] → FpOk X pins H1 b := fun b hb => by
    have e : b = s1.heap.objs.size := by simpa using hb
    subst e
    exact I1.fpOk (Nat.le_refl _) (I1.hok.fresh (Nat.le_refl _))
  rcases q with ⟨hq, q⟩ | ⟨hq, q⟩
  · obtain ⟨its, rv, p, hz⟩ := I1.list hq
    refine wpAny_pyIter_list p.isList ?_
    exact ⟨s1.heap.objs.size, [s1.heap.objs.size], _, _, H1, rfl, I1.kept (t' := s1.toks) fun b o e => Heap.get?_push_of_some _ e, turn_list a _, ⟨_, Heap.get?_push_size _ rfl, rfl, rfl⟩, fresh1, q⟩
  · obtain ⟨its, rv, p, hz⟩ := I1.tuple hq
    refine wpAny_pyIter_tuple (show s1.heap.IsTuple a its.toArray from p) ?_
    exact ⟨s1.heap.objs.size, [s1.heap.objs.size], _, _, H1, rfl, I1.kept (t' := s1.toks) fun b o e => Heap.get?_push_of_some _ e, turn_tuple a _, ⟨_, Heap.get?_push_size _ rfl, rfl, rfl⟩, fresh1, q⟩
end L2
end
section
set_option Elab.async false
set_option linter.all false
set_option maxRecDepth 100000
set_option maxHeartbeats 4000000
namespace DL
open PySem L2 PyProof.Rows
variable [tB : Tb] [gR : Gr]
section
variable {P : Program} {w : World} {K : PySem.W.Frag} {mg : Str → Option Value} {base : Heap} {X : Cx} {N : List Str} {sc fs : Scope} {k : Nat}
theorem gl_of {x : Str} (c : Cok P w K mg base X N sc fs k) (h : glB sc x = true) : Gl X x ∧ x ≠ "__name__" ∧ (x == ("__debug__" : Str)) = false := by
  unfold glB at h
  simp only [Bool.and_eq_true, Bool.not_eq_true'] at h
  obtain ⟨⟨h1, h2⟩, h3⟩ := h
  refine ⟨?_, fun e => ?_, h2⟩
  · show X.env.kindOf x = some .globalImplicit
    rw [kindOf_S c]
    show sc.names.lookup x = _
    split at h1
    · assumption
    · cases h1
  · subst e
    exact absurd h3 (by decide)
def lsrc (st : Sto) : DV → Option (List DV × (Sto → Prop))
  | .d (.list xs) => some (xs.map .d, fun _ => True)
  | .r a => match st a with | some (.lst xs) => some (xs, fun s => s a = some (.lst xs)) | _ => none
  | _ => none
theorem lsrc_at {F0 H0 : Hp} {st0 : Sto} {v : V} {x : DV} {xs : List DV} {inv : Sto → Prop} (R0 : Rs K F0 H0 st0) (r : RV K F0 v x) (h : lsrc st0 x = some (xs, inv)) :
    ∃ a, v = .ref a ∧ (∃ vs, SqL K H0 a vs) ∧ inv st0 ∧ ∀ F H st, (∀ a o, F0 a = some o → F a = some o) → Rs K F H st → inv st → ∃ vs, SqL K H a vs ∧ RVs K F vs xs := by
  cases x with
  | d z =>
    cases z with
    | list ds =>
      cases h
      cases r with
      | d r =>
        cases r with
        | lst q s => exact ⟨_, rfl, ⟨_, SqL.mono (Rs.ex F0 H0 st0 R0) q⟩, True.intro, fun F H st e R _ => ⟨_, SqL.mono (fun a o z => Rs.ex F H st R a o (e a o z)) q, (s.mono e).rvs⟩⟩
    | _ => cases h
  | t ys => cases h
  | r a =>
    cases r
    unfold lsrc at h
    simp only at h
    cases e : st0 a with
    | none => rw [e] at h; cases h
    | some m =>
      rw [e] at h
      cases m with
      | lst ys =>
        cases h
        obtain ⟨vs, q, s⟩ := R0.ok a _ e
        refine ⟨a, rfl, ⟨vs, SqL.of q⟩, e, fun F H st _ R iv => ?_⟩
        obtain ⟨vs, q, s⟩ := R.ok a _ iv
        exact ⟨vs, SqL.of q, s⟩
      | dK _ => cases h
      | dT _ => cases h
      | ins _ _ => cases h
      | lk _ _ _ => cases h
      | xd _ => cases h
theorem tsrc_at {F0 H0 : Hp} {st0 : Sto} {v : V} {x : DV} {xs : List DV} (R0 : Rs K F0 H0 st0) (r : RV K F0 v x) (h : titems x = some xs) :
    ∃ a, v = .ref a ∧ (∃ vs, SqT K H0 a vs) ∧ ∀ F H st, (∀ a o, F0 a = some o → F a = some o) → Rs K F H st → ∃ vs, SqT K H a vs ∧ RVs K F vs xs := by
  obtain ⟨a, vs, e, q, s⟩ := titems_rv r h
  exact ⟨a, e, ⟨vs, SqT.of (R0.sub _ _ q).1⟩, fun F H st e R => ⟨vs, SqT.of (R.sub _ _ (e _ _ q)).1, s.mono e⟩⟩
def seqSrc (st : Sto) (x : DV) : Option (List DV × (Sto → Prop)) := match titems x with | some xs => some (xs, fun _ => True) | none => lsrc st x
def qiSeq (te : TD) : TDi := fun ε st Q => te ε st fun x s1 => match seqSrc s1 x with | some (its, inv) => Q its inv s1 | none => False
theorem di_seq {tg e : Expr} {te : TD} (h : DE X e te) : DI X tg e (qiSeq te) := by
  obtain ⟨t1, p, a⟩ := h
  refine ⟨⟨_, pi_seq p, fun F σ H ε st Qd R' R E h kk => ?_⟩⟩
  refine a F σ H ε st _ _ R E h fun F1 v H1 x s1 t1 R1 r q => ?_
  split at q
  rotate_left
  · exact q.elim
  rename_i its inv es
  unfold seqSrc at es
  split at es
  · rename_i xs ex
    cases es
    obtain ⟨a, rfl, ⟨vs, hv⟩, hs⟩ := tsrc_at R1 r ex
    refine ⟨a, vs, rfl, .inr ⟨hv, kk F1 _ H1 its _ s1 t1 R1 (fun F H st e R iv => ?_) q⟩⟩
    obtain ⟨vs, hv, s⟩ := hs F H st e R
    refine ⟨fun i y hy => ?_, vs, hv, Nat.le_of_eq s.length⟩
    obtain ⟨u, hu, ru⟩ := s.get' hy
    refine ⟨⟨vs, u, hv, hu⟩, fun v H' ⟨e1, e2⟩ => ?_⟩
    subst e1
    have := e2 vs hv
    rw [hu] at this
    cases this
    exact ⟨F, Step.refl _ _ _, R, ru⟩
  · obtain ⟨a, rfl, ⟨vs, hv⟩, iv0, hs⟩ := lsrc_at R1 r es
    refine ⟨a, vs, rfl, .inl ⟨hv, kk F1 _ H1 its _ s1 t1 R1 (fun F H st e R iv => ?_) q⟩⟩
    obtain ⟨vs, hv, s⟩ := hs F H st e R iv
    refine ⟨fun i y hy => ?_, vs, hv, Nat.le_of_eq s.length⟩
    obtain ⟨u, hu, ru⟩ := s.get' hy
    refine ⟨⟨vs, u, hv, hu⟩, fun v H' ⟨e1, e2⟩ => ?_⟩
    subst e1
    have := e2 vs hv
    rw [hu] at this
    cases this
    exact ⟨F, Step.refl _ _ _, R, ru⟩
def rngD (lo : Int) (n : Nat) : List DV := (List.range n).map fun (i : Nat) => .d (.int (lo + (i : Int)))
theorem rng_src {F0 : Hp} (lo : Int) (n : Nat) : Src K F0 (Itr lo n) (rngD lo n) (fun _ => True) := fun F H st e R iv => by
  unfold rngD
  refine ⟨fun i x hx => ?_, by simp [Itr]⟩
  rw [List.getElem?_map] at hx
  by_cases hlt : i < n
  · rw [List.getElem?_range hlt] at hx
    cases hx
    refine ⟨hlt, fun v H' ⟨e1, e2⟩ => ?_⟩
    subst e1 e2
    exact ⟨F, Step.refl _ _ _, R, .d (.int _)⟩
  · rw [List.getElem?_eq_none (by rw [List.length_range]; omega)] at hx
    cases hx
def qiRng1 (ta : TDa) : TDi := fun ε st Q => ta ε st fun vs s1 => match vs with
  | [.d (.int j)] => -(2 ^ 62) ≤ j ∧ j < 2 ^ 62 ∧ Q (rngD 0 j.toNat) (fun _ => True) s1
  | _ => False
def qiRng2 (ta : TDa) : TDi := fun ε st Q => ta ε st fun vs s1 => match vs with
  | [.d (.int i), .d (.int j)] => (-(2 ^ 62) ≤ i ∧ i < 2 ^ 62 ∧ -(2 ^ 62) ≤ j ∧ j < 2 ^ 62) ∧ Q (rngD i (j - i).toNat) (fun _ => True) s1
  | _ => False
theorem di_rng1 {tg a : Expr} {ta : TDa} {p pos : Pos} (c : Cok P w K mg base X N sc fs k) (hg : glB sc "range" = true) (hm : mg "range" = none) (h : DA X [a] ta) (hs : starEach [a] X.env = [(false, eval a X.env)] := by rfl) : DI X tg (.Call (.Name "range" p) [a] [] pos) (qiRng1 ta) := by
  obtain ⟨t1, p1, a1⟩ := h
  refine ⟨⟨_, pi_range1 (gl_of c hg).1 (by rw [c.hmg]; exact hm) p1 hs, fun F σ H ε st Qd R' R E h kk => ?_⟩⟩
  refine a1 F σ H ε st _ _ R E h fun F1 vs H1 xs s1 t1 R1 r q => ?_
  split at q
  · cases r with
    | cons r rr =>
      cases rr
      cases rv_int r
      exact ⟨_, rfl, q.1, q.2.1, kk F1 _ H1 _ _ s1 t1 R1 (rng_src 0 _) q.2.2⟩
  · exact q.elim
def zipD (xs ys : List DV) : List DV := List.zipWith (fun x y => mkT [x, y]) xs ys
theorem pair_src {F H : Hp} {st : Sto} {T : Addr} {u1 u2 : V} {x y : DV} (R : Rs K F H st) (hT : H T = none) (r1 : RV K F u1 x) (r2 : RV K F u2 y) :
    ∃ F', Step F H st F' (upd H T (.tup [u1, u2])) st ∧ Rs K F' (upd H T (.tup [u1, u2])) st ∧ RV K F' (.ref T) (mkT [x, y]) := by
  obtain ⟨R', t⟩ := R.frz (o := .tup [u1, u2]) hT
  exact ⟨_, t, R', mkT_rv upd_same (.cons (r1.mono t.ex) (.cons (r2.mono t.ex) .nil))⟩
def qiZip (ta : TDa) : TDi := fun ε st Q => ta ε st fun vs s1 => match vs with
  | [x, y] => match titems x, titems y with
    | some xs, some ys => Q (zipD xs ys) (fun _ => True) s1
    | _, _ => match lsrc s1 x, lsrc s1 y with
      | some (xs, inv1), some (ys, inv2) => Q (zipD xs ys) (fun s => inv1 s ∧ inv2 s) s1
      | _, _ => False
  | _ => False
theorem di_zip {e e2 : Expr} {ta : TDa} {p pos tpos : Pos} {elts : List Expr} {kk' : Nat} (c : Cok P w K mg base X N sc fs k) (hg : glB sc "zip" = true) (hm : mg "zip" = none) (h : DA X [e, e2] ta)
    (hs : starEach [e, e2] X.env = (false, eval e X.env) :: starEach [e2] X.env := by rfl) (hpl : (backTo pos (starEach [e2] X.env)).any (·.1) = false := by rfl) : DI X (.Tuple elts kk' tpos) (.Call (.Name "zip" p) [e, e2] [] pos) (qiZip ta) := by
  obtain ⟨t1, p1, a1⟩ := h
  refine ⟨⟨_, RZ.pi_zipA (gl_of c hg).1 (by rw [c.hmg]; exact hm) p1 hs hpl, fun F σ H ε st Qd R' R E h kk => ?_⟩⟩
  refine a1 F σ H ε st _ _ R E h fun F1 vs H1 xs s1 t1 R1 r q => ?_
  split at q
  · cases r with
    | cons r rr =>
      cases rr with
      | cons r2 rr =>
        cases rr
        split at q
        · rename_i xs ys ex ey
          obtain ⟨a, rfl, ⟨vs, hv⟩, h1⟩ := tsrc_at R1 r ex
          obtain ⟨b, rfl, ⟨ws, hw⟩, h2⟩ := tsrc_at R1 r2 ey
          refine ⟨a, b, vs, ws, rfl, .inr ⟨hv, hw, kk F1 _ H1 _ _ s1 t1 R1 (fun F H st e R iv => ?_) q⟩⟩
          obtain ⟨vs, hv, s⟩ := h1 F H st e R
          obtain ⟨ws, hw, s2⟩ := h2 F H st e R
          refine ⟨fun i z hz => ?_, vs, ws, hv, hw, ?_⟩
          · unfold zipD at hz
            rw [List.getElem?_zipWith] at hz
            cases hx : xs[i]? with
            | none => simp [hx] at hz
            | some x =>
              cases hy : ys[i]? with
              | none => simp [hx, hy] at hz
              | some y =>
                simp [hx, hy] at hz
                subst hz
                obtain ⟨u, hu, ru⟩ := s.get' hx
                obtain ⟨u2, hu2, ru2⟩ := s2.get' hy
                refine ⟨⟨vs, ws, u, u2, hv, hw, hu, hu2⟩, fun v H' ⟨T, x', y', e1, hT, e2, h3, h4⟩ => ?_⟩
                subst e1 e2
                have q1 := h3 vs hv
                have q2 := h4 ws hw
                rw [hu] at q1
                rw [hu2] at q2
                cases q1
                cases q2
                exact pair_src R hT ru ru2
          · have l1 := s.length
            have l2 := s2.length
            unfold zipD
            rw [List.length_zipWith]
            omega
        · split at q
          rotate_left
          · exact q.elim
          rename_i xs inv1 ys inv2 ex ey
          obtain ⟨a, rfl, ⟨vs, hv⟩, i1, h1⟩ := lsrc_at R1 r ex
          obtain ⟨b, rfl, ⟨ws, hw⟩, i2, h2⟩ := lsrc_at R1 r2 ey
          refine ⟨a, b, vs, ws, rfl, .inl ⟨hv, hw, kk F1 _ H1 _ _ s1 t1 R1 (fun F H st e R iv => ?_) q⟩⟩
          obtain ⟨vs, hv, s⟩ := h1 F H st e R iv.1
          obtain ⟨ws, hw, s2⟩ := h2 F H st e R iv.2
          refine ⟨fun i z hz => ?_, vs, ws, hv, hw, ?_⟩
          · unfold zipD at hz
            rw [List.getElem?_zipWith] at hz
            cases hx : xs[i]? with
            | none => simp [hx] at hz
            | some x =>
              cases hy : ys[i]? with
              | none => simp [hx, hy] at hz
              | some y =>
                simp [hx, hy] at hz
                subst hz
                obtain ⟨u, hu, ru⟩ := s.get' hx
                obtain ⟨u2, hu2, ru2⟩ := s2.get' hy
                refine ⟨⟨vs, ws, u, u2, hv, hw, hu, hu2⟩, fun v H' ⟨T, x', y', e1, hT, e2, h3, h4⟩ => ?_⟩
                subst e1 e2
                have q1 := h3 vs hv
                have q2 := h4 ws hw
                rw [hu] at q1
                rw [hu2] at q2
                cases q1
                cases q2
                exact pair_src R hT ru ru2
          · have l1 := s.length
            have l2 := s2.length
            unfold zipD
            rw [List.length_zipWith]
            omega
  · exact q.elim
def enumD (xs : List DV) : List DV := xs.mapIdx fun i x => mkT [.d (.int (i : Int)), x]
def qiEnum (ta : TDa) : TDi := fun ε st Q => ta ε st fun vs s1 => match vs with
  | [x] => (match seqSrc s1 x with | some (xs, inv) => Q (enumD xs) inv s1 | none => False)
  | _ => False
theorem enum_at {xs : List DV} {i : Nat} {z : DV} (h : (enumD xs)[i]? = some z) : ∃ x, xs[i]? = some x ∧ z = mkT [.d (.int (i : Int)), x] := by
  unfold enumD at h
  rw [List.getElem?_mapIdx] at h
  cases e : xs[i]? with
  | none => simp [e] at h
  | some x => simp [e] at h; exact ⟨x, rfl, h.symm⟩
theorem di_enum {e : Expr} {ta : TDa} {p pos tpos : Pos} {elts : List Expr} {kk' : Nat} (c : Cok P w K mg base X N sc fs k) (hg : glB sc "enumerate" = true) (hm : mg "enumerate" = none) (h : DA X [e] ta) (hs : starEach [e] X.env = [(false, eval e X.env)] := by rfl) : DI X (.Tuple elts kk' tpos) (.Call (.Name "enumerate" p) [e] [] pos) (qiEnum ta) := by
  obtain ⟨t1, p1, a1⟩ := h
  refine ⟨⟨_, pi_enumA (gl_of c hg).1 (by rw [c.hmg]; exact hm) p1 hs, fun F σ H ε st Qd R' R E h kk => ?_⟩⟩
  refine a1 F σ H ε st _ _ R E h fun F1 vs H1 xs s1 t1 R1 r q => ?_
  split at q
  · cases r with
    | cons r rr =>
      cases rr
      split at q
      rotate_left
      · exact q.elim
      rename_i xs inv es
      unfold seqSrc at es
      split at es
      · rename_i ys ex
        cases es
        obtain ⟨a, rfl, ⟨vs, hv⟩, h1⟩ := tsrc_at R1 r ex
        refine ⟨a, vs, rfl, .inr ⟨hv, kk F1 _ H1 _ _ s1 t1 R1 (fun F H st e R iv => ?_) q⟩⟩
        obtain ⟨vs, hv, s⟩ := h1 F H st e R
        refine ⟨fun i z hz => ?_, vs, hv, by unfold enumD; rw [List.length_mapIdx]; exact Nat.le_of_eq s.length⟩
        obtain ⟨x, hx, rfl⟩ := enum_at hz
        obtain ⟨u, hu, ru⟩ := s.get' hx
        refine ⟨⟨vs, u, hv, hu⟩, fun v H' ⟨T, x', e1, hT, e2, h3⟩ => ?_⟩
        subst e1 e2
        have q1 := h3 vs hv
        rw [hu] at q1
        cases q1
        exact pair_src R hT (.d (.int _)) ru
      · obtain ⟨a, rfl, ⟨vs, hv⟩, i1, h1⟩ := lsrc_at R1 r es
        refine ⟨a, vs, rfl, .inl ⟨hv, kk F1 _ H1 _ _ s1 t1 R1 (fun F H st e R iv => ?_) q⟩⟩
        obtain ⟨vs, hv, s⟩ := h1 F H st e R iv
        refine ⟨fun i z hz => ?_, vs, hv, by unfold enumD; rw [List.length_mapIdx]; exact Nat.le_of_eq s.length⟩
        obtain ⟨x, hx, rfl⟩ := enum_at hz
        obtain ⟨u, hu, ru⟩ := s.get' hx
        refine ⟨⟨vs, u, hv, hu⟩, fun v H' ⟨T, x', e1, hT, e2, h3⟩ => ?_⟩
        subst e1 e2
        have q1 := h3 vs hv
        rw [hu] at q1
        cases q1
        exact pair_src R hT (.d (.int _)) ru
  · exact q.elim
/-- the reading that a data reading gives, whatever the context is -/
def lift {α β : Type} (rel : Hp → α → β → Prop) (K : PySem.W.Frag) (t : Env → Sto → (β → Sto → Prop) → Prop) : L2.St → Hp → (α → Hp → Prop) → Prop := fun σ H Q => ∃ F ε st Qd, Rs K F H st ∧ RE K F σ ε ∧ t ε st Qd ∧ Kg rel K F H st Qd Q
theorem lift_sg {α β : Type} {rel : Hp → α → β → Prop} {t : Env → Sto → (β → Sto → Prop) → Prop} : Sg rel K (lift rel K t) t := fun F σ H ε st Qd Q R E h kk => ⟨F, ε, st, Qd, R, E, h, kk⟩
theorem DE.lift {e : Expr} {t : TD} (h : DE X e t) : PE X e (DL.lift (RV X.K) X.K t) := by
  obtain ⟨te, p, a⟩ := h
  exact ⟨fun pins s σ H Q I ⟨F, ε, st, Qd, R, E, h, kk⟩ => p.run pins s σ H Q I (a F σ H ε st Qd Q R E h kk)⟩
theorem DTs.lift {e : List Expr} {t : TDt} (h : DTs X e t) : PTs X e (DL.lift relT X.K t) := by
  obtain ⟨te, p, a⟩ := h
  exact ⟨fun pins s σ H Q I ⟨F, ε, st, Qd, R, E, h, kk⟩ => p.run pins s σ H Q I (a F σ H ε st Qd Q R E h kk)⟩
def liftG (K : PySem.W.Frag) (ws : List Nat) (t : TDg) : TG := fun v σ H Q => ∃ F ε st x Qd, Rs K F H st ∧ RE K F σ ε ∧ RV K F v x ∧ t x ε st Qd ∧
  ∀ F' σ' H' ε' st', Step F H st F' H' st' → Rs K F' H' st' → RE K F' σ' ε' → (∀ vs : List Nat, (∀ i ∈ ws, i ∈ vs) → wipe σ' vs = wipe σ vs) → Qd ε' st' → Q σ' H'
theorem DG.lift {e : Expr} {ws : List Nat} {t : TDg} (h : DG X e ws t) : PG X e (liftG X.K ws t) := by
  obtain ⟨te, p, a⟩ := h
  exact ⟨fun pins s σ H v u Q I r ⟨F, ε, st, x, Qd, R, E, rv, h, kk⟩ => p.run pins s σ H v u Q I r (a F σ H ε st v x Qd Q R E rv h kk)⟩
def liftI (K : PySem.W.Frag) (t : TDi) : TI := fun σ H R' => ∃ F ε st Qd, Rs K F H st ∧ RE K F σ ε ∧ t ε st Qd ∧ ∀ F' J H' items inv st', Step F H st F' H' st' → Rs K F' H' st' → Src K F' J items inv → Qd items inv st' → R' J H'
theorem DI.lift {tg e : Expr} {t : TDi} (h : DI X tg e t) : PI X tg e (liftI X.K t) := by
  obtain ⟨te, p, a⟩ := h
  exact ⟨fun pins s σ H R' I ⟨F, ε, st, Qd, R, E, h, kk⟩ => p.run pins s σ H R' I (a F σ H ε st Qd R' R E h kk)⟩
theorem de_lc {elt tg iter : Expr} {ifs : List Expr} {scope : Scope} {pos : Pos} {ti : TDi} {g : TDg} {tt : TDt} {te : TD} {ws : List Nat} (m : Bool) (own : List (Str × Nat)) (c : Cok P w K mg base X N sc fs k) (hb : blkC N sc scope own = true) (hw : ∀ i ∈ ws, i ∈ own.map (·.2)) (hi : DI X tg iter ti)
    (hg : ∀ X', Cok P w K mg base X' N (relS scope sc) scope k → DG X' tg ws g) (ht : ∀ X', Cok P w K mg base X' N (relS scope sc) scope k → DTs X' ifs tt) (he : ∀ X', Cok P w K mg base X' N (relS scope sc) scope k → DE X' elt te)
    (hs : ∀ x, foldedSetIterable iter X.env x = pure x := by intro _; rfl) : DE X (.ListComp elt [⟨tg, iter, ifs, 0⟩] scope pos) (qLc m ti g tt te (own.map (·.2))) := by
  have ok : BlkOk X.N X.env.scope scope own := by
    rw [c.hN, c.hs]
    exact blkOk_by hb
  have cb := fun s H C cl fp => c.blk (scope := scope) ok.kind s H C cl fp
  obtain ⟨wi, p0, a0⟩ := hi
  refine ⟨⟨_, pe_lc (g := liftG X.K ws g) (tt := DL.lift relT X.K tt) (te := DL.lift (RV X.K) X.K te) c.calm (by rw [c.hN]; exact c.nd) p0 ok (fun s H C cl fp => (hg _ (cb s H C cl fp)).lift) (fun s H C cl fp => (ht _ (cb s H C cl fp)).lift) (fun s H C cl fp => (he _ (cb s H C cl fp)).lift) hs,
    comp_sim hw a0 (fun F σ H ε st v x Qd Q R E r q kk => ⟨F, ε, st, x, Qd, R, E, r, q, kk⟩) lift_sg lift_sg⟩⟩
/-- name = [..] on one line -/
def setLcB (N : List Str) (sc : Scope) (i : Nat) (y : Str) : Bool := decide (N[i]? = some y) && decide (sc.names.lookup y = some .local)
theorem ds_setLc {elt tg iter : Expr} {ifs : List Expr} {scope : Scope} {i : Nat} {y : Str} {py pos spos : Pos} {ti : TDi} {g : TDg} {tt : TDt} {te : TD} {ws : List Nat} (m : Bool) (own : List (Str × Nat)) (c : Cok P w K mg base X N sc fs k) (hy : setLcB N sc i y = true)
    (hsw : swapsWith (.ListComp elt [⟨tg, iter, ifs, 0⟩] scope pos) (some (.Name y py)) spos.line (envS sc) = pure true) (hb : blkC N sc scope own = true) (hw : ∀ i ∈ ws, i ∈ own.map (·.2)) (hi : DI X tg iter ti)
    (hg : ∀ X', Cok P w K mg base X' N (relS scope sc) scope k → DG X' tg ws g) (ht : ∀ X', Cok P w K mg base X' N (relS scope sc) scope k → DTs X' ifs tt) (he : ∀ X', Cok P w K mg base X' N (relS scope sc) scope k → DE X' elt te)
    (hs : ∀ x, foldedSetIterable iter X.env x = pure x := by intro _; rfl) : DS X (.Assign [.Name y py] (.ListComp elt [⟨tg, iter, ifs, 0⟩] scope pos) spos) (qAsg (qLc m ti g tt te (own.map (·.2))) (qgN i)) := by
  unfold setLcB at hy
  simp only [Bool.and_eq_true, decide_eq_true_eq] at hy
  have ok : BlkOk X.N X.env.scope scope own := by
    rw [c.hN, c.hs]
    exact blkOk_by hb
  have cb := fun s H C cl fp => c.blk (scope := scope) ok.kind s H C cl fp
  obtain ⟨wi, p0, a0⟩ := hi
  refine ⟨⟨_, ps_setLc (i := i) (g := liftG X.K ws g) (tt := DL.lift relT X.K tt) (te := DL.lift (RV X.K) X.K te) c.calm (by rw [c.hN]; exact c.nd) (by rw [c.hN]; exact hy.1) (by rw [c.hs]; exact hy.2) ((swaps_S c _ _ _).trans hsw) p0 ok (fun s H C cl fp => (hg _ (cb s H C cl fp)).lift) (fun s H C cl fp => (ht _ (cb s H C cl fp)).lift) (fun s H C cl fp => (he _ (cb s H C cl fp)).lift) hs,
    fun F σ H ε st Dd D R E h kk => ?_⟩⟩
  refine comp_sim (K := X.K) hw a0 (fun F σ H ε st v x Qd Q R E r q kk => ⟨F, ε, st, x, Qd, R, E, r, q, kk⟩) lift_sg lift_sg F σ H ε st _ _ R E h fun F1 v H1 x st1 s1 R1 r q => ?_
  exact kk.nx F1 _ H1 _ st1 s1 R1 ((E.mono s1.ex).set r i) q
abbrev SpD := List DV → Sto → (DV → Sto → Prop) → Prop
def hsp (K : PySem.W.Frag) (sp : SpD) : Sp := fun vs H Q _ => ∃ F st xs Qd, Rs0 K F H st ∧ RVs K F vs xs ∧ sp xs st Qd ∧ @Kg _ Gr.tr _ _ (RV K) K F H st Qd Q
def qCall (sp : SpD) (ta : TDa) : TD := fun ε st Q => ta ε st fun xs s1 => sp xs s1 Q
theorem de_call {x : Str} {e : Expr} {es : List Expr} {ta : TDa} {p pos : Pos} {f : Addr} {fd : FuncData} {ps : List Str} {sp : SpD} {j : Nat} (c : Cok P w K mg base X N sc fs k) (hg : glB sc x = true) (hm : mg x = some (.ref f)) (hk : PySem.W.keepIn K (.ref f) = true) (G : FnOk P w K mg base CX0 j f fd ps (hsp K sp)) (hj : j ≤ k) (b : Binds K fd ps [])
    (ha : DA X (e :: es) ta) (he : starEach (e :: es) X.env = (false, eval e X.env) :: starEach es X.env := by rfl) (hpl : (backTo pos (starEach es X.env)).any (·.1) = false := by rfl) : DE X (.Call (.Name x p) (e :: es) [] pos) (qCall sp ta) := by
  obtain ⟨t1, p1, a1⟩ := ha
  obtain ⟨hX1, hX2, hX3, hX4, hX5, _⟩ := id c
  have g := gl_of c hg
  have G' : FnOk X.prog X.w X.K X.mg X.base CX0 k f fd ps (hsp X.K sp) := by
    rw [hX1, hX2, hX3, hX4, hX5]
    exact G.mono hj
  refine ⟨⟨_, pe_call G' c.room g.1 (by rw [hX4]; exact hm) (by rw [hX3]; exact hk) (by rw [hX3]; exact b) .nil pass0 p1 g.2.2 he hpl, fun F σ H ε st Qd Q R E h kk => ?_⟩⟩
  refine a1 F σ H ε st _ _ R E h fun F1 vs H1 xs s1 t1 R1 r q => ?_
  show hsp X.K sp (vs ++ []) H1 Q E0
  rw [List.append_nil]
  exact ⟨F1, s1, xs, Qd, R1.toRs0, r, q, (kk.step t1).tr R1⟩
/-- what is given out, all else of the store forgotten -/
def Fg (Q : DV → Sto → Prop) : DV → Sto → Prop := fun x st => ∃ st', Le st' st ∧ Q x st'
def startD (n : Nat) (xs : List DV) : Env := xs.map some ++ List.replicate (n - xs.length) none
theorem start_re {F : Hp} {vs : List V} {xs : List DV} (r : RVs K F vs xs) (N : List Str) : RE K F (L2.start N vs) (startD N.length xs) := by
  have hl := r.length
  refine ⟨by unfold L2.start startD; simp only [List.length_append, List.length_map, List.length_replicate]; omega, fun i x h => ?_⟩
  unfold startD at h
  unfold L2.start
  by_cases hi : i < xs.length
  · rw [List.getElem?_append_left (by rw [List.length_map]; exact hi), List.getElem?_map] at h
    rw [List.getElem?_append_left (by rw [List.length_map]; omega), List.getElem?_map]
    cases e : xs[i]? with
    | none => rw [e] at h; cases h
    | some y =>
      rw [e] at h
      cases h
      obtain ⟨v, hv, rv⟩ := r.get' e
      exact ⟨v, by rw [hv]; rfl, rv⟩
  · rw [List.getElem?_append_right (by rw [List.length_map]; omega), List.getElem?_replicate] at h
    split at h <;> cases h
omit gR in
/-- THE RULE of a def: its body's derivation, and its reading -/
theorem fn_ok {x qual : Str} {s : Stmt} {f : Addr} {fd : FuncData} {ps : List Str} {sp : SpD} {t : TDs} (Fu : Fun K x qual s f fd) (S : FnScope N ps (defScope s)) (len : ∀ xs st Q, sp xs st Q → xs.length = ps.length)
    (hbody : ∀ [Gr] X, Cok P w K mg base X N (defScope s) (defScope s) k → DSs X (defBody s) t)
    (hsem : ∀ xs st Q, sp xs st Q → t { nx := fun _ st' => Fg Q (.d .none) st', rt := Fg Q } (startD N.length xs) st) : FnOk P w K mg base CX0 (k + 1) f fd ps (hsp K sp) := by
  refine Fu.ok S (fun vs H Q E ⟨F, st, xs, Qd, R, r, h, kk⟩ => r.length.trans (len xs st Qd h)) (fun cdv A outer s' H vs Q E hr ⟨F, st, xs, Qd, R, r, h, kk⟩ => ?_)
  have c : Cok P w K mg base (cxOf CX0 P w K mg base N qual (defScope s) f cdv A outer s' H E).nox N (defScope s) (defScope s) k :=
    ⟨rfl, rfl, rfl, rfl, rfl, rfl, S.nd, S.kind, rfl, rfl, fun _ _ => rfl, hr, fun _ _ h => h.elim⟩
  obtain ⟨ts, p, a⟩ := hbody _ c
  have fin : ∀ F' v H' x' st', Step F H st F' H' st' → Rs K F' H' st' → RV K F' v x' → Fg Qd x' st' → Q v H' := fun F' v H' x' st' t R' r' ⟨st2, le, q⟩ =>
    kk F' v H' x' st2 (t.less le) (R'.toRs0.le le).tr r' q
  refine ⟨ts, p, a F _ H (startD N.length xs) st _ _ R.tr (start_re r N) (hsem xs st Qd h) ⟨fun F' σ' H' ε' st' t R' E' q => fin F' .non H' (.d .none) st' t R' (.d .non) q, fin, fun _ _ _ _ _ _ _ _ z => z.elim, fun _ _ _ _ _ _ _ _ z => z.elim⟩⟩
end
end DL
end
section
set_option Elab.async false
set_option linter.all false
set_option maxRecDepth 100000
set_option maxHeartbeats 4000000
namespace DL
open PySem L2 PyProof.Rows
variable [tB : Tb] [gR : Gr]
section
variable {P : Program} {w : World} {K : PySem.W.Frag} {mg : Str → Option Value} {base : Heap} {X : Cx} {N : List Str} {sc fs : Scope} {k : Nat}
theorem Cok.hu (c : Cok P w K mg base X N sc fs k) : X.A.units + 1 < cLine := hu_of c.room
theorem Cok.hu64 (c : Cok P w K mg base X N sc fs k) : X.A.units + 64 < cLine := c.room.units
theorem Cok.hu0 (c : Cok P w K mg base X N sc fs k) : X.A.units < cLine := c.room.units0
def qCB (r : RLD) (ta : TDa) : TD := fun ε st Q => ta ε st fun xs s1 => r xs s1 Q
theorem de_cb {x : Str} {e : Expr} {es : List Expr} {ta : TDa} {p pos : Pos} {id : String} {r : RLD} (c : Cok P w K mg base X N sc fs k) (hg : glB sc x = true) (hm : mg x = none) (hv : bootBuiltins x = some (.builtin id)) (hc : ∃ r', CallR X (.builtin id) r' ∧ SL X.K r' r)
    (ha : DA X (e :: es) ta) (he : starEach (e :: es) X.env = (false, eval e X.env) :: starEach es X.env := by rfl) (hpl : (backTo pos (starEach es X.env)).any (·.1) = false := by rfl) : DE X (.Call (.Name x p) (e :: es) [] pos) (qCB r ta) := by
  obtain ⟨t1, p1, a1⟩ := ha
  obtain ⟨r', h1, h2⟩ := hc
  have g := gl_of c hg
  refine ⟨⟨_, pe_callB h1 g.1 (by rw [c.hmg]; exact hm) hv p1 g.2.1 g.2.2 he hpl, fun F σ H ε st Qd Q R E h kk => a1.go R E h kk fun F1 H1 s1 v x R1 E1 rv q kk => h2 F1 H1 s1 v x _ _ R1 rv q kk⟩⟩
theorem de_ct {x : Str} {e : Expr} {es : List Expr} {ta : TDa} {p pos : Pos} {T : String} {r : RLD} (c : Cok P w K mg base X N sc fs k) (hg : glB sc x = true) (hm : mg x = none) (hv : bootBuiltins x = some (.type T)) (hc : ∃ r', CallR X (.type T) r' ∧ SL X.K r' r)
    (ha : DA X (e :: es) ta) (he : starEach (e :: es) X.env = (false, eval e X.env) :: starEach es X.env := by rfl) (hpl : (backTo pos (starEach es X.env)).any (·.1) = false := by rfl) : DE X (.Call (.Name x p) (e :: es) [] pos) (qCB r ta) := by
  obtain ⟨t1, p1, a1⟩ := ha
  obtain ⟨r', h1, h2⟩ := hc
  have g := gl_of c hg
  refine ⟨⟨_, pe_callTy h1 g.1 (by rw [c.hmg]; exact hm) hv p1 g.2.1 g.2.2 he hpl, fun F σ H ε st Qd Q R E h kk => a1.go R E h kk fun F1 H1 s1 v x R1 E1 rv q kk => h2 F1 H1 s1 v x _ _ R1 rv q kk⟩⟩
theorem CallR.or2 {f : Value} {r r' : List V → Hp → VK → Prop} (h : CallR X f r) (h' : CallR X f r') : CallR X f (fun x H Q => r x H Q ∨ r' x H Q) := by
  intro pins s σ H xs us Q I rx q
  rcases q with q | q
  · exact h pins s σ H xs us Q I rx q
  · exact h' pins s σ H xs us Q I rx q
theorem rvs1 {F : Hp} {vs : List V} {x : DV} (r : RVs K F vs [x]) : ∃ v, vs = [v] ∧ RV K F v x := by
  cases r with
  | cons a b => cases b; exact ⟨_, rfl, a⟩
/-- len -/
def qLen : RLD := fun xs st Q => match xs with
  | [.d (.str z)] => z.length ≤ sizeLine ∧ Q (.d (.int (z.length : Int))) st
  | [x] => (match sitems st x with
    | some l => Q (.d (.int (l.length : Int))) st
    | none => match x with
      | .r a => (match st a with
        | some (.dK kvs) => Q (.d (.int (kvs.length : Int))) st
        | _ => False)
      | _ => False)
  | _ => False
theorem c_len : ∃ r', CallR X (.builtin "len") r' ∧ SL X.K r' qLen := by
  refine ⟨_, CallR.or2 (CallR.or2 call_len_str call_len_seq) call_lenD, ?_⟩
  intro F H st vs xs Qd Q R rv h kk
  unfold qLen at h
  split at h
  · obtain ⟨v, rfl, r⟩ := rvs1 rv
    cases rv_str r
    exact .inl (.inl ⟨_, rfl, h.1, kk.at R (.d (.int _)) h.2⟩)
  · obtain ⟨v, rfl, r⟩ := rvs1 rv
    split at h
    · rename_i l el
      obtain ⟨p, ys, rfl, hq, s⟩ := sitems_rv R r el
      refine .inl (.inr ⟨p, ys, rfl, hq, ?_⟩)
      rw [s.length]
      exact kk.at R (.d (.int _)) h
    · split at h
      · rename_i a hx
        cases r
        split at h
        · rename_i kvs e
          obtain ⟨ws, q, s⟩ := R.ok _ _ e
          have hl : ws.length = kvs.length := Paired.length s
          refine .inr ⟨_, ws, rfl, q, ?_⟩
          rw [hl]
          exact kk.at R (.d (.int _)) h
        · exact h.elim
      · exact h.elim
  · exact h.elim
/-- tuple(x), list(x) -/
def qTupleC : RLD := fun xs st Q => match xs with
  | [x] => (match sitems st x with | some l => Q (mkT l) st | none => False)
  | _ => False
theorem c_tuple : ∃ r', CallR X (.type "tuple") r' ∧ SL X.K r' qTupleC := by
  refine ⟨_, call_tuple_of, ?_⟩
  intro F H st vs xs Qd Q R rv h kk
  unfold qTupleC at h
  split at h
  · obtain ⟨v, rfl, r⟩ := rvs1 rv
    split at h
    · rename_i x l el
      unfold sitems at el
      split at el
      · rename_i l' et
        cases el
        obtain ⟨p, ys, rfl, hq, s⟩ := titems_rv r et
        exact ⟨p, ys, rfl, .inr ⟨SqT.of (R.sub _ _ hq).1, kk.at R (mkT_rv hq s) h⟩⟩
      · obtain ⟨p, ys, rfl, hq, s⟩ := litems_rv R r el
        exact ⟨p, ys, rfl, .inl ⟨hq, fun l hl => new_tup R s hl h kk⟩⟩
    · exact h.elim
  · exact h.elim
def qListC (m : Bool) : RLD := fun xs st Q => match xs with
  | [x] => (match sitems st x with | some l => newL m l st Q | none => False)
  | _ => False
theorem c_list (m : Bool) : ∃ r', CallR X (.type "list") r' ∧ SL X.K r' (qListC m) := by
  refine ⟨_, call_list_of, ?_⟩
  intro F H st vs xs Qd Q R rv h kk
  unfold qListC at h
  split at h
  · obtain ⟨v, rfl, r⟩ := rvs1 rv
    split at h
    · rename_i x l el
      obtain ⟨p, ys, rfl, hq, s⟩ := sitems_rv R r el
      exact ⟨p, ys, rfl, hq, fun l hl => new_lst R s hl h kk⟩
    · exact h.elim
  · exact h.elim
/-- max, min of two -/
def qMax2 : RLD := fun xs st Q => match xs with
  | [.d (.int i), .d (.int j)] => Q (.d (.int (if j > i then j else i))) st
  | _ => False
def qMin2 : RLD := fun xs st Q => match xs with
  | [.d (.int i), .d (.int j)] => Q (.d (.int (if j < i then j else i))) st
  | _ => False
/-- int(n) -/
def qIntC : RLD := fun xs st Q => match xs with
  | [.d (.int i)] => Q (.d (.int i)) st
  | [.d (.bool b)] => Q (.d (.int (if b then 1 else 0))) st
  | _ => False
theorem c_int : ∃ r', CallR X (.type "int") r' ∧ SL X.K r' qIntC := by
  refine ⟨_, call_int1, ?_⟩
  intro F H st vs xs Qd Q R rv h kk
  unfold qIntC at h
  split at h
  · obtain ⟨v, rfl, r⟩ := rvs1 rv
    cases rv_int r
    exact .inl ⟨_, rfl, kk.at R (.d (.int _)) h⟩
  · obtain ⟨v, rfl, r⟩ := rvs1 rv
    cases rv_bool r
    exact .inr ⟨_, rfl, kk.at R (.d (.int _)) h⟩
  · exact h.elim
/-- sum of ints -/
def rSumT (K : PySem.W.Frag) : List V → Hp → VK → Prop := fun vs H Q => ∃ (a : Addr) (ns : List Int), vs = [V.ref a] ∧ SqT K H a (ns.map V.int) ∧ Q (.int ns.sum) H
theorem cr_sumT (hc : X.calm = true) : CallR X (.builtin "sum") (rSumT X.K) := by
  intro pins s σ H vs us Q I r h
  obtain ⟨a, ns, rfl, hs, q⟩ := h
  obtain ⟨its, rv, hl, _⟩ := I.tuple hs
  rw [Vals.ref1 r]
  have hi := rv.ints
  obtain ⟨xs, e⟩ := hi.allInts.items
  have hn : numsOf (intItems xs).toList = ns := by rw [← e]; exact hi.numsOf
  rw [nums_intItems] at hn
  rw [e] at hl
  refine PySem.W.ktm_sumG (I.ok.hd hc) (show s.heap.IsTuple a (intItems xs) from hl) fun h' tk t' hk => ?_
  rw [preSum_eq, List.take_of_length_le (by simp), hn]
  exact ⟨.int _, H, I.kept hk, ⟨_, rfl⟩, q⟩
def qSum : RLD := fun xs st Q => match xs with
  | [x] => (match sitems st x with | some l => (match dints l with | some ns => Q (.d (.int ns.sum)) st | none => False) | none => False)
  | _ => False
theorem c_sum (hc : X.calm = true) : ∃ r', CallR X (.builtin "sum") r' ∧ SL X.K r' qSum := by
  refine ⟨_, CallR.or2 (cr_sum hc) (cr_sumT hc), ?_⟩
  intro F H st vs xs Qd Q R rv h kk
  unfold qSum at h
  split at h
  · obtain ⟨v, rfl, r⟩ := rvs1 rv
    split at h
    · rename_i x l el
      split at h
      rotate_left
      · exact h.elim
      rename_i ns en
      have q := h
      obtain ⟨p, ys, rfl, hq, s⟩ := sitems_rv R r el
      obtain ⟨rfl, _⟩ := dints_rvs s en
      rcases hq with hq | hq
      · exact .inl ⟨p, ns, rfl, hq, kk.at R (.d (.int _)) q⟩
      · exact .inr ⟨p, ns, rfl, hq, kk.at R (.d (.int _)) q⟩
    · exact h.elim
  · exact h.elim
/-- any, all of truth values -/
def dbools : List DV → Option (List Bool)
  | [] => some []
  | .d (.bool i) :: r => (dbools r).map (i :: ·)
  | _ :: _ => none
theorem dbools_rvs : ∀ {F : Hp} {vs : List V} {xs : List DV} {ns : List Bool}, RVs K F vs xs → dbools xs = some ns → vs = ns.map V.bl
  | _, _, [], ns, r, h => by cases h; cases r; rfl
  | F, v :: vs, .d (.bool i) :: xs, ns, .cons r q, h => by
    cases e : dbools xs with
    | none => simp [dbools, e] at h
    | some l =>
      simp [dbools, e] at h
      subst h
      cases rv_bool r
      rw [dbools_rvs q e]
      rfl
theorem dbools_map : ∀ l : List Bool, dbools (l.map fun i => .d (.bool i)) = some l
  | [] => rfl
  | i :: r => by simp [dbools, dbools_map r]
def qAny : RLD := fun xs st Q => match xs with
  | [x] => (match litems st x with | some l => (match dbools l with | some ns => Q (.d (.bool (ns.any id))) st | none => False) | none => False)
  | _ => False
def qAll : RLD := fun xs st Q => match xs with
  | [x] => (match litems st x with | some l => (match dbools l with | some ns => Q (.d (.bool (ns.all id))) st | none => False) | none => False)
  | _ => False
theorem c_any (hc : X.calm = true) : ∃ r', CallR X (.builtin "any") r' ∧ SL X.K r' qAny := by
  refine ⟨_, cr_any hc, ?_⟩
  intro F H st vs xs Qd Q R rv h kk
  unfold qAny at h
  split at h
  · obtain ⟨v, rfl, r⟩ := rvs1 rv
    split at h
    · rename_i x l el
      split at h
      rotate_left
      · exact h.elim
      rename_i ns en
      have q := h
      obtain ⟨p, ys, rfl, hq, s⟩ := litems_rv R r el
      cases dbools_rvs s en
      exact ⟨p, ns, rfl, hq, kk.at R (.d (.bl _)) q⟩
    · exact h.elim
  · exact h.elim
def tyName (st : Sto) : DV → Option String
  | .d .none => some "NoneType"
  | .d (.bool _) => some "bool"
  | .d (.int _) => some "int"
  | .d (.str _) => some "str"
  | .d (.list _) => some "list"
  | .d (.tuple _) => some "tuple"
  | .d (.dict _) => none
  | .t _ => some "tuple"
  | .r a => match st a with | some (.lst _) => some "list" | some (.dK _) => some "dict" | some (.dT _) => some "dict" | _ => none
def qIsi (T : String) (ta : TD) : TD := fun ε st Q => ta ε st fun x s1 => match tyName s1 x with
  | some T' => (match kitB T' T with | some b => Q (.d (.bool b)) s1 | none => False)
  | none => False
def keyD : DV → Option Key
  | .d (.int i) => some (.inl i)
  | .d (.str x) => some (.inr x)
  | _ => none
def keyT : List DV → Option (List Key)
  | [] => some []
  | x :: r => match keyD x, keyT r with | some k, some l => some (k :: l) | _, _ => none
def lookD {κ : Type} [DecidableEq κ] (kvs : List (κ × DV)) (k : κ) : Option DV := (kvs.find? fun kv => decide (kv.1 = k)).map (·.2)
def putD {κ : Type} [DecidableEq κ] (kvs : List (κ × DV)) (k : κ) (v : DV) : List (κ × DV) :=
  if (kvs.any fun kv => decide (kv.1 = k)) = true then kvs.map fun kv => if kv.1 = k then (kv.1, v) else kv else kvs ++ [(k, v)]
abbrev PR (K : PySem.W.Frag) (F : Hp) {κ : Type} : List (κ × V) → List (κ × DV) → Prop := Paired fun p q => p.1 = q.1 ∧ RV K F p.2 q.2
theorem key_rv {F : Hp} {v : V} {x : DV} {q : Key} (r : RV K F v x) (h : keyD x = some q) : v = kV q := by
  cases x with
  | d z =>
    cases z with
    | int i => cases h; exact rv_int r
    | str s => cases h; exact rv_str r
    | _ => cases h
  | r a => cases h
  | t a => cases h
theorem keyT_rv : ∀ {F : Hp} {vs : List V} {xs : List DV} {q : List Key}, RVs K F vs xs → keyT xs = some q → vs = q.map kV
  | _, _, [], q, r, h => by cases h; cases r; rfl
  | F, v :: vs, x :: xs, q, .cons r s, h => by
    unfold keyT at h
    cases e1 : keyD x with
    | none => rw [e1] at h; cases h
    | some a =>
      cases e2 : keyT xs with
      | none => rw [e1, e2] at h; cases h
      | some l =>
        rw [e1, e2] at h
        cases h
        rw [key_rv r e1, keyT_rv s e2]
        rfl
theorem look_rv {κ : Type} [DecidableEq κ] {F : Hp} {ws : List (κ × V)} {kvs : List (κ × DV)} (r : PR K F ws kvs) (q : κ) : (∃ v x, valV ws q = some v ∧ lookD kvs q = some x ∧ RV K F v x) ∨ (valV ws q = none ∧ lookD kvs q = none) := by
  induction r with
  | nil => exact .inr ⟨rfl, rfl⟩
  | @cons a b l1 l2 h t ih =>
    obtain ⟨e, r⟩ := h
    by_cases hq : a.1 = q
    · refine .inl ⟨a.2, b.2, valV_pos hq, ?_, r⟩
      unfold lookD
      rw [List.find?_cons, decide_eq_true (e ▸ hq)]
      rfl
    · have h1 : valV (a :: l1) q = valV l1 q := valV_neg hq
      have h2 : lookD (b :: l2) q = lookD l2 q := by
        unfold lookD
        rw [List.find?_cons, decide_eq_false (e ▸ hq)]
      rw [h1, h2]
      exact ih
theorem put_rv {κ : Type} [DecidableEq κ] {F : Hp} {ws : List (κ × V)} {kvs : List (κ × DV)} (r : PR K F ws kvs) (q : κ) {v : V} {x : DV} (rx : RV K F v x) : PR K F (putK ws q v) (putD kvs q x) := by
  have ha : (ws.any fun kv => decide (kv.1 = q)) = kvs.any fun kv => decide (kv.1 = q) := by
    clear rx
    induction r with
    | nil => rfl
    | @cons a b l1 l2 h t ih => rw [List.any_cons, List.any_cons, ih, h.1]
  unfold putK putD
  rw [ha]
  by_cases h : (kvs.any fun kv => decide (kv.1 = q)) = true
  · rw [if_pos h, if_pos h]
    clear ha h
    induction r with
    | nil => exact .nil
    | @cons a b l1 l2 h t ih =>
      rw [List.map_cons, List.map_cons]
      refine .cons ?_ ih
      by_cases e : a.1 = q
      · rw [if_pos e, if_pos (h.1 ▸ e)]
        exact ⟨h.1, rx⟩
      · rw [if_neg e, if_neg (h.1 ▸ e)]
        exact h
  · rw [if_neg h, if_neg h]
    exact Paired.snoc r ⟨rfl, rx⟩
/-- what a dict of the store holds at a key -/
def dlook (m : Option MO) (y : DV) : Option (Option DV) := match m with
  | some (.dK kvs) => (keyD y).map fun q => lookD kvs q
  | some (.dT kvs) => match titems y with | some ys => (keyT ys).map fun q => lookD kvs q | none => none
  | some (.lk _ _ kvs) => match titems y with | some ys => (keyT ys).map fun q => lookD kvs q | none => none
  | _ => none
theorem dlook_at {F H : Hp} {st : Sto} {a : Addr} {u : V} {y : DV} {o : Option DV} (R : Rs K F H st) (r : RV K F u y) (h : dlook (st a) y = some o) : (∃ v x, o = some x ∧ DGet H a u (some v) ∧ RV K F v x) ∨ (o = none ∧ DGet H a u none) := by
  unfold dlook at h
  split at h
  · rename_i kvs e
    obtain ⟨ws, hw, s⟩ := R.ok a _ e
    cases ek : keyD y with
    | none => rw [ek] at h; cases h
    | some q =>
      rw [ek] at h
      cases h
      rw [key_rv r ek]
      rcases look_rv s q with ⟨v, x, e1, e2, rx⟩ | ⟨e1, e2⟩
      · refine .inl ⟨v, x, e2, ?_, rx⟩
        rw [← e1]
        exact DGet.k hw
      · refine .inr ⟨e2, ?_⟩
        rw [← e1]
        exact DGet.k hw
  · rename_i kvs e
    obtain ⟨ws, hw, s⟩ := R.ok a _ e
    split at h
    · rename_i ys ey
      obtain ⟨b, vs, rfl, hb, sb⟩ := titems_rv r ey
      cases ek : keyT ys with
      | none => rw [ek] at h; cases h
      | some q =>
        rw [ek] at h
        cases h
        have hv := keyT_rv sb ek
        subst hv
        have hb' := (R.sub _ _ hb).1
        rcases look_rv s q with ⟨v, x, e1, e2, rx⟩ | ⟨e1, e2⟩
        · refine .inl ⟨v, x, e2, ?_, rx⟩
          rw [← e1]
          exact DGet.t hw hb'
        · refine .inr ⟨e2, ?_⟩
          rw [← e1]
          exact DGet.t hw hb'
    · cases h
  · rename_i ob ws kvs e
    obtain ⟨hw, s⟩ := R.ok a _ e
    split at h
    · rename_i ys ey
      obtain ⟨b, vs, rfl, hb, sb⟩ := titems_rv r ey
      cases ek : keyT ys with
      | none => rw [ek] at h; cases h
      | some q =>
        rw [ek] at h
        cases h
        have hv := keyT_rv sb ek
        subst hv
        have hb' := (R.sub _ _ hb).1
        rcases look_rv s q with ⟨v, x, e1, e2, rx⟩ | ⟨e1, e2⟩
        · refine .inl ⟨v, x, e2, ?_, rx⟩
          rw [← e1]
          exact .inr ⟨ws, q, b, .inr ⟨ob, hw⟩, rfl, hb', rfl⟩
        · refine .inr ⟨e2, ?_⟩
          rw [← e1]
          exact .inr ⟨ws, q, b, .inr ⟨ob, hw⟩, rfl, hb', rfl⟩
    · cases h
  · cases h
def dput (m : Option MO) (y x : DV) : Option MO := match m with
  | some (.dK kvs) => match keyD y with | some q => if kvs.length < sizeLine then some (.dK (putD kvs q x)) else none | none => none
  | some (.dT kvs) => match titems y with | some ys => (match keyT ys with | some q => if kvs.length < sizeLine then some (.dT (putD kvs q x)) else none | none => none) | none => none
  | _ => none
theorem dput_at {F H : Hp} {st : Sto} {a : Addr} {u v : V} {y x : DV} {m : MO} (R : Rs K F H st) (r : RV K F u y) (rx : RV K F v x) (h : dput (st a) y x = some m) : ∃ H', DPut H a u v H' ∧ Step F H st F H' (up st a m) ∧ Rs K F H' (up st a m) := by
  unfold dput at h
  split at h
  · rename_i kvs e
    obtain ⟨ws, hw, s⟩ := R.ok a _ e
    split at h
    · rename_i q ek
      split at h
      · rename_i hl
        cases h
        rw [key_rv r ek]
        have hl2 : ws.length = kvs.length := Paired.length s
        obtain ⟨R', t⟩ := R.put (o := .dK (putK ws q v)) (m := .dK (putD kvs q x)) e ⟨_, upd_same, put_rv s q rx⟩
        exact ⟨_, DPut.k hw (by omega), t, R'⟩
      · cases h
    · cases h
  · rename_i kvs e
    obtain ⟨ws, hw, s⟩ := R.ok a _ e
    split at h
    · rename_i ys ey
      obtain ⟨b, vs, rfl, hb, sb⟩ := titems_rv r ey
      split at h
      · rename_i q ek
        split at h
        · rename_i hl
          cases h
          have hv := keyT_rv sb ek
          subst hv
          have hl2 : ws.length = kvs.length := Paired.length s
          obtain ⟨R', t⟩ := R.put (o := .dT (putK ws q v)) (m := .dT (putD kvs q x)) e ⟨_, upd_same, put_rv s q rx⟩
          exact ⟨_, DPut.t hw (R.sub _ _ hb).1 (by omega), t, R'⟩
        · cases h
      · cases h
    · cases h
  · cases h
def qDGet : R2D := fun x y st Q => match x with
  | .r a => (match dlook (st a) y with | some (some z) => Q z st | _ => False)
  | _ => False
theorem de_dget {o i : Expr} {pos : Pos} {ta tb : TD} (c : Cok P w K mg base X N sc fs k) (ho : DE X o ta) (hi : DE X i tb) (hs : NoSl i) : DE X (.Subscript o i pos) (qOp qDGet ta tb) := by
  obtain ⟨te, pa, sa⟩ := ho
  obtain ⟨tf, pb, sb⟩ := hi
  refine ⟨⟨_, pe_dget c.hu pa pb hs, Sg.bin (r' := fun x y H Q => ∃ a v, x = .ref a ∧ DGet H a y (some v) ∧ Q v H) sa sb (fun _ _ _ _ e h => RV.mono e h) ?_⟩⟩
  intro F H st v w x y Qd Q R rv rw' h kk
  unfold qDGet at h
  split at h
  · cases rv
    split at h
    · rename_i z e
      rcases dlook_at R rw' e with ⟨v, x, e1, g, rx⟩ | ⟨e1, _⟩
      · cases e1
        exact ⟨_, v, rfl, g, kk.at R rx h⟩
      · cases e1
    · exact h.elim
  · exact h.elim
def qDIn (neg : Bool) : R2D := fun y x st Q => match x with
  | .r a => (match dlook (st a) y with | some o => Q (.d (.bool (if neg then !o.isSome else o.isSome))) st | none => False)
  | _ => False
theorem dt_dnotin {i o : Expr} {pos : Pos} {ta tb : TD} (c : Cok P w K mg base X N sc fs k) (hi : DE X i ta) (ho : DE X o tb) (hm : behindInMarks .NotIn o = false := by rfl) : DT X (.Compare i [.NotIn] [o] pos) (qTest (qOp (qDIn true) ta tb)) := by
  obtain ⟨te, pa, sa⟩ := hi
  obtain ⟨tf, pb, sb⟩ := ho
  refine ⟨⟨_, pt_cmp (pc_dnotin c.hu pa pb) hm, test_sg (Sg.bin (r' := fun y x H Q => ∃ a o, x = V.ref a ∧ DGet H a y o ∧ Q (V.bl (!o.isSome)) H) sa sb (fun _ _ _ _ e h => RV.mono e h) ?_)⟩⟩
  intro F H st v w x y Qd Q R rv rw' h kk
  unfold qDIn at h
  split at h
  · cases rw'
    split at h
    rotate_left
    · exact h.elim
    rename_i z e
    have q := h
    rcases dlook_at R rv e with ⟨v, x, e1, g, rx⟩ | ⟨e1, g⟩
    · subst e1
      exact ⟨_, some v, rfl, g, kk.at R (.d (.bl _)) q⟩
    · subst e1
      exact ⟨_, none, rfl, g, kk.at R (.d (.bl _)) q⟩
  · exact h.elim
/-- d[k] = v -/
def qDPut (td ty tv : TD) : TDs := fun D ε st => tv ε st fun v s1 => td ε s1 fun x s2 => ty ε s2 fun y s3 => match x with
  | .r a => (match dput (s3 a) y v with | some m => D.nx ε (up s3 a m) | none => False)
  | _ => False
theorem ds_dput {o i value : Expr} {pos pos' : Pos} {td ty tv : TD} (c : Cok P w K mg base X N sc fs k) (ho : DE X o td) (hi : DE X i ty) (hv : DE X value tv) (hs : swapsWith value (some (.Subscript o i pos')) pos.line X.env = pure false) : DS X (.Assign [.Subscript o i pos'] value pos) (qDPut td ty tv) := by
  obtain ⟨t1, p1, a1⟩ := ho
  obtain ⟨t2, p2, a2⟩ := hi
  obtain ⟨t3, p3, a3⟩ := hv
  refine ⟨⟨_, ps_dput c.hu p1 p2 p3 hs, fun F σ H ε st Dd D R E h kk => ?_⟩⟩
  refine a3 F σ H ε st _ _ R E h fun F1 v H1 x s1 st1 R1 r1 q => ?_
  refine a1 F1 σ H1 ε s1 _ _ R1 (E.mono st1.ex) q fun F2 u H2 y s2 st2 R2 r2 q => ?_
  refine a2 F2 σ H2 ε s2 _ _ R2 (E.mono (st1.trans st2).ex) q fun F3 z H3 y' s3 st3 R3 r3 q => ?_
  split at q
  · cases r2
    split at q
    rotate_left
    · exact q.elim
    rename_i m em
    obtain ⟨H4, g, t, R4⟩ := dput_at R3 r3 (r1.mono (st2.trans st3).ex) em
    exact ⟨_, H4, rfl, g, kk.nx F3 σ H4 ε _ (((st1.trans st2).trans st3).trans t) R4 (E.mono ((st1.trans st2).trans st3).ex) q⟩
  · exact q.elim
def qDNew (T : Bool) : TD := fun _ st Q => ∀ p, st p = none → Q (.r p) (up st p (if T then .dT [] else .dK []))
end
end DL
end
section
set_option Elab.async false
set_option linter.all false
set_option maxRecDepth 100000
set_option maxHeartbeats 4000000
namespace DLM
open PySem PySem.Spec
open AutoSeq1 (wpAny_loadPart' idx_int sub_tuple_tuple sub_list_list sub_tuple_list sub_list_tuple)
theorem list_extend_gen (l : Addr) (items : Array Value) (n : Nat) (b : Addr) (items2 : Array Value) (n2 : Nat) (sl : Array (Option Value)) (hc0 : ¬(!items.isEmpty && Builtin.List.listTooLong (items.size + items2.size)) = true) (hc1 : items.size ≤ sizeLine) (hs2 : items.size + items2.size ≤ sizeLine + 1) :
    Meets (Builtin.«list.extend» ⟨[.ref l, .ref b], []⟩) (fun _ R s => s.heap.get? l = some { cls := .type "list", dict := none, data := .seq items n, slots := #[] } ∧ s.heap.get? b = some { cls := .type "list", dict := none, data := .seq items2 n2, slots := sl } ∧ R (.ok (.ret Value.none)) { s with heap := s.heap.update l (Obj.mapSeq fun x => x ++ items2), toks := s.toks }) :=
  .of_wp fun prog w A R s h => by
    obtain ⟨hp, g, d, tk, os⟩ := s; obtain ⟨hl, hb, h⟩ := h; have f1 := idx_int; have f2 := sub_tuple_tuple; have f3 := sub_list_list; have f4 := sub_tuple_list; have f5 := sub_list_tuple;
    have hz' : (items ++ items2).size ≤ sizeLine + 1 := by rw [Array.size_append]; exact hs2
    wp_walk using (wpAny_updateSeq hl rfl (hz := hc1) (_hz' := hz')), wpAny_loadPart' hl, wpAny_loadPart' hb; exact ⟨_, rfl, h⟩
theorem list_extend_genT (l : Addr) (items : Array Value) (n : Nat) (b : Addr) (items2 : Array Value) (n2 : Nat) (dd : Option Addr) (sl : Array (Option Value)) (hc0 : ¬(!items.isEmpty && Builtin.List.listTooLong (items.size + items2.size)) = true) (hc1 : items.size ≤ sizeLine) (hs2 : items.size + items2.size ≤ sizeLine + 1) :
    Meets (Builtin.«list.extend» ⟨[.ref l, .ref b], []⟩) (fun _ R s => s.heap.get? l = some { cls := .type "list", dict := none, data := .seq items n, slots := #[] } ∧ s.heap.get? b = some { cls := .type "tuple", dict := dd, data := .seq items2 n2, slots := sl } ∧ R (.ok (.ret Value.none)) { s with heap := s.heap.update l (Obj.mapSeq fun x => x ++ items2), toks := s.toks }) :=
  .of_wp fun prog w A R s h => by
    obtain ⟨hp, g, d, tk, os⟩ := s; obtain ⟨hl, hb, h⟩ := h; have f1 := idx_int; have f2 := sub_tuple_tuple; have f3 := sub_list_list; have f4 := sub_tuple_list; have f5 := sub_list_tuple;
    have hz' : (items ++ items2).size ≤ sizeLine + 1 := by rw [Array.size_append]; exact hs2
    wp_walk using (wpAny_updateSeq hl rfl (hz := hc1) (_hz' := hz')), wpAny_loadPart' hl, wpAny_loadPart' hb; exact ⟨_, rfl, h⟩
end DLM
namespace DL
open PySem L2 PyProof.Rows
variable [tB : Tb] [gR : Gr]
section
variable {P : Program} {w : World} {K : PySem.W.Frag} {mg : Str → Option Value} {base : Heap} {X : Cx} {N : List Str} {sc fs : Scope} {k : Nat}
def qPairs : List (Str × TD) → Env → Sto → (List (Key × DV) → Sto → Prop) → Prop
  | [], _, st, Q => Q [] st
  | (x, t) :: r, ε, st, Q => t ε st fun v s1 => qPairs r ε s1 fun ps s2 => Q ((.inr x, v) :: ps) s2
structure DPs (X : Cx) (pos : Pos) (keys : List (Option Expr)) (values : List Expr) (l : List (Str × TD)) : Prop where
  ex : ∃ trs, PPs X pos keys values trs ∧ ∀ F σ H ε st Qd (Q : List (V × V) → Hp → Prop), Rs X.K F H st → RE X.K F σ ε → qPairs l ε st Qd →
    (∀ F' H' (ps : List (Key × V)) qs st', Step F H st F' H' st' → Rs X.K F' H' st' → PR X.K F' ps qs → Qd qs st' → Q (ps.map fun kv => (kV kv.1, kv.2)) H') → tPairs trs σ H Q
theorem dps_nil {pos : Pos} : DPs X pos [] [] [] := ⟨⟨[], pps_nil, fun F σ H ε st Qd Q R E h kk => kk F H [] [] st (Step.refl _ _ _) R .nil h⟩⟩
theorem dps_cons {pos p2 : Pos} {x : Str} {j : Nat} {v : Expr} {ks : List (Option Expr)} {vs : List Expr} {t : TD} {l : List (Str × TD)} (hv : DE X v t) (hr : DPs X pos ks vs l) : DPs X pos (some (.Constant (.str x) j p2) :: ks) (v :: vs) ((x, t) :: l) := by
  obtain ⟨t1, p1, a1⟩ := hv
  obtain ⟨trs, p3, a3⟩ := hr
  refine ⟨⟨_, pps_cons pe_str p1 p3, fun F σ H ε st Qd Q R E h kk => ?_⟩⟩
  refine a1 F σ H ε st _ _ R E h fun F1 v H1 y s1 st1 R1 r q => ?_
  exact a3 F1 σ H1 ε s1 _ _ R1 (E.mono st1.ex) q fun F2 H2 ps qs s2 st2 R2 rr q2 => kk F2 H2 ((.inr x, v) :: ps) ((.inr x, y) :: qs) s2 (st1.trans st2) R2 (.cons ⟨rfl, r.mono st2.ex⟩ rr) q2
def mergeD (kvs more : List (Key × DV)) : List (Key × DV) := more.foldl (fun acc kv => putD acc kv.1 kv.2) kvs
theorem merge_rv {F : Hp} : ∀ {more : List (Key × V)} {moreD : List (Key × DV)} {kvs : List (Key × V)} {kvsD : List (Key × DV)}, PR K F more moreD → PR K F kvs kvsD → PR K F (mergeK kvs more) (mergeD kvsD moreD)
  | _, _, _, _, .nil, h => h
  | a :: _, b :: _, _, _, .cons r t, h => by
    have e := r.1
    have := merge_rv t (put_rv h a.1 r.2)
    unfold mergeK mergeD at this ⊢
    rw [List.foldl_cons, List.foldl_cons, ← e]
    exact this
def qDisp (l : List (Str × TD)) : TD := fun ε st Q => qPairs l ε st fun qs s1 => qs.length ≤ 15 ∧ ∀ p, s1 p = none → Q (.r p) (up s1 p (.dK (mergeD [] qs)))
theorem de_disp {pos : Pos} {keys : List (Option Expr)} {values : List Expr} {l : List (Str × TD)} (h : DPs X pos keys values l) (hall : keys.all (·.isSome) = true) (hl : keys.length = values.length) (h0 : keys ≠ []) (h15 : keys.length ≤ 15) : DE X (.Dict keys values pos) (qDisp l) := by
  obtain ⟨trs, p, a⟩ := h
  refine ⟨⟨_, pe_disp p hall hl h0 h15, fun F σ H ε st Qd Q R E h kk p hp => ?_⟩⟩
  obtain ⟨f0, s0⟩ := R.free hp
  obtain ⟨R', t'⟩ := R.hide (o := .dK []) hp
  refine a F σ _ ε st _ _ R' E h fun F1 H1 ps qs s1 t1 R1 rr ⟨h15', q⟩ => ?_
  obtain ⟨hp1, f1, d1⟩ := t1.hid upd_same f0 s0
  have hlen : ps.length = qs.length := Paired.length rr
  refine ⟨hp1, ps, rfl, by omega, ?_⟩
  have R2 := R1.hput (o := .dK (mergeK [] ps)) f1 d1 hp1 R (t'.trans t1) hp
  have t2 : Step F H st F1 (upd H1 p (.dK (mergeK [] ps))) s1 := (t'.trans t1).hput hp
  have ss : Step F H st F1 (upd H1 p (.dK (mergeK [] ps))) (up s1 p (.dK (mergeD [] qs))) := t2.seen hp
  refine kk F1 (.ref p) _ (.r p) (up s1 p (.dK (mergeD [] qs))) ss (R.by ⟨fun a u ha => ?_, fun a m ha => ?_, R2.tb.up upd_same⟩ ss) (.r p) (q p d1)
  · rw [up_ne (fun z => by rw [z, f1] at ha; cases ha)]; exact R2.sub a u ha
  · by_cases z : a = p
    · subst z; rw [up_same] at ha; cases ha; exact ⟨_, upd_same, merge_rv rr .nil⟩
    · rw [up_ne z] at ha; exact R2.ok a m ha
theorem mt_extendA : MtM X "list.extend" (fun x vs H Q => ∃ l b xs zs, x = .ref l ∧ vs = [.ref b] ∧ H l = some (.lst xs) ∧ (SqL X.K H b zs ∨ SqT X.K H b zs) ∧ xs.length + zs.length ≤ sizeLine ∧ Q .non (upd H l (.lst (xs ++ zs)))) := by
  intro pins s σ H x vs v us Q I rx rv h
  obtain ⟨l, b, xs, zs, rfl, rfl, hH, hB, hz, q⟩ := h
  cases rx
  obtain ⟨u, rfl, ru⟩ := rv.one
  cases ru
  obtain ⟨z, its, n, r, hl, e⟩ := I.lstM hH
  rcases hB with hB | hB
  · obtain ⟨its2, r2, ⟨⟨cls2, dd2, data2, sl2⟩, n2, ho2, hc2, hd02, hd2⟩, hs2⟩ := I.list hB
    simp only at hc2 hd02 hd2
    subst hc2 hd02 hd2
    have hl2 := r2.length
    have hsz : its.toArray.size + its2.toArray.size ≤ sizeLine := by rw [List.size_toArray, List.size_toArray]; omega
    have hlong : ¬ (!its.toArray.isEmpty && Builtin.List.listTooLong (its.toArray.size + its2.toArray.size)) = true := by
      rw [notLongL hsz, Bool.and_false]
      exact Bool.false_ne_true
    refine call_meets F.slot_list_extend ⟨_, e, rfl⟩ F.entry_list_extend (F.args_list_extend_2 _ _)
      (DLM.list_extend_gen l its.toArray n b its2.toArray n2 sl2 hlong (by rw [List.size_toArray]; omega) (by omega)) ⟨e, ho2, ?_⟩
    refine ⟨.non, _, I.lset (its' := its ++ its2) hH e (by simp) (r.append r2) ?_, rfl, q⟩
    rw [List.length_append]
    omega
  · obtain ⟨its2, r2, ⟨⟨cls2, dd2, data2, sl2⟩, ho2, hc2, n2, hd2⟩, hs2⟩ := I.tuple hB
    simp only at hc2 hd2
    subst hc2 hd2
    have hl2 := r2.length
    have hsz : its.toArray.size + its2.toArray.size ≤ sizeLine := by rw [List.size_toArray, List.size_toArray]; omega
    have hlong : ¬ (!its.toArray.isEmpty && Builtin.List.listTooLong (its.toArray.size + its2.toArray.size)) = true := by
      rw [notLongL hsz, Bool.and_false]
      exact Bool.false_ne_true
    refine call_meets F.slot_list_extend ⟨_, e, rfl⟩ F.entry_list_extend (F.args_list_extend_2 _ _)
      (DLM.list_extend_genT l its.toArray n b its2.toArray n2 dd2 sl2 hlong (by rw [List.size_toArray]; omega) (by omega)) ⟨e, ho2, ?_⟩
    refine ⟨.non, _, I.lset (its' := its ++ its2) hH e (by simp) (r.append r2) ?_, rfl, q⟩
    rw [List.length_append]
    omega
/-- xs.append(e), xs.extend(e) as a statement's expression -/
def qAppend (to te : TD) : TD := fun ε st Q => to ε st fun x s1 => match x with
  | .r a => (∃ xs, s1 a = some (.lst xs)) ∧ te ε s1 fun y s2 => ∃ xs, s2 a = some (.lst xs) ∧ xs.length < sizeLine ∧ Q (.d .none) (up s2 a (.lst (xs ++ [y])))
  | _ => False
theorem de_append {o e : Expr} {to te : TD} {apos cpos : Pos} (ho : DE X o to) (he : DE X e te) (hbase : attributeBase o "append" X.env (eval o X.env) = eval o X.env := by rfl)
    (hfew : ((backTo cpos (starEach [e] X.env)).all (fun x => !x.1) && (backToKw cpos (keywordEach [] X.env)).all (fun x => x.1.isSome)
      && decide ([e].length + ([] : List Keyword).length + (if ([] : List Keyword).isEmpty then 0 else 1) < 30)) = true := by rfl)
    (hline : (apos.endLine == cpos.line) = true := by rfl) (hs : starEach [e] X.env = (false, eval e X.env) :: starEach [] X.env := by rfl) : DE X (.Call (.Attribute o "append" apos) [e] [] cpos) (qAppend to te) := by
  obtain ⟨t1, p1, a1⟩ := ho
  obtain ⟨t2, p2, a2⟩ := he
  refine ⟨⟨_, pe_bm PySem.F.plainAttrs_list PySem.F.slot_list_append PySem.F.type_list_append mt_append p1 (pa_cons p2 pa_nil hs) hbase hfew hline hs rfl, fun F σ H ε st Qd Q R E h kk => ?_⟩⟩
  refine a1 F σ H ε st _ _ R E h fun F1 v H1 x s1 st1 R1 r q => ?_
  split at q
  · cases r
    obtain ⟨⟨xs0, e0⟩, q⟩ := q
    obtain ⟨vs0, hv0, _⟩ := R1.ok _ _ e0
    refine ⟨Or.inl ⟨rfl, _, SqL.of hv0⟩, a2 F1 σ H1 ε s1 _ _ R1 (E.mono st1.ex) q fun F2 u H2 y s2 st2 R2 r2 ⟨xs, ex, hl, q⟩ => ?_⟩
    obtain ⟨vs, hv, s⟩ := R2.ok _ _ ex
    have hlen := s.length
    obtain ⟨R3, t3⟩ := R2.put (o := .lst (vs ++ [u])) (m := .lst (xs ++ [y])) ex ⟨_, upd_same, s.append (.cons r2 .nil)⟩
    exact ⟨_, vs, u, rfl, rfl, hv, by omega, kk F2 _ _ (.d .none) _ ((st1.trans st2).trans t3) R3 (.d .non) q⟩
  · exact q.elim
def qExtend (to te : TD) : TD := fun ε st Q => to ε st fun x s1 => match x with
  | .r a => (∃ xs, s1 a = some (.lst xs)) ∧ te ε s1 fun y s2 => ∃ xs ys, s2 a = some (.lst xs) ∧ sitems s2 y = some ys ∧ xs.length + ys.length ≤ sizeLine ∧ Q (.d .none) (up s2 a (.lst (xs ++ ys)))
  | _ => False
theorem de_extend {o e : Expr} {to te : TD} {apos cpos : Pos} (ho : DE X o to) (he : DE X e te) (hbase : attributeBase o "extend" X.env (eval o X.env) = eval o X.env := by rfl)
    (hfew : ((backTo cpos (starEach [e] X.env)).all (fun x => !x.1) && (backToKw cpos (keywordEach [] X.env)).all (fun x => x.1.isSome)
      && decide ([e].length + ([] : List Keyword).length + (if ([] : List Keyword).isEmpty then 0 else 1) < 30)) = true := by rfl)
    (hline : (apos.endLine == cpos.line) = true := by rfl) (hs : starEach [e] X.env = (false, eval e X.env) :: starEach [] X.env := by rfl) : DE X (.Call (.Attribute o "extend" apos) [e] [] cpos) (qExtend to te) := by
  obtain ⟨t1, p1, a1⟩ := ho
  obtain ⟨t2, p2, a2⟩ := he
  refine ⟨⟨_, pe_bm PySem.F.plainAttrs_list PySem.F.slot_list_extend PySem.F.type_list_extend mt_extendA p1 (pa_cons p2 pa_nil hs) hbase hfew hline hs rfl, fun F σ H ε st Qd Q R E h kk => ?_⟩⟩
  refine a1 F σ H ε st _ _ R E h fun F1 v H1 x s1 st1 R1 r q => ?_
  split at q
  · cases r
    obtain ⟨⟨xs0, e0⟩, q⟩ := q
    obtain ⟨vs0, hv0, _⟩ := R1.ok _ _ e0
    refine ⟨Or.inl ⟨rfl, _, SqL.of hv0⟩, a2 F1 σ H1 ε s1 _ _ R1 (E.mono st1.ex) q fun F2 u H2 y s2 st2 R2 r2 ⟨xs, ys, ex, ey, hl, q⟩ => ?_⟩
    obtain ⟨vs, hv, s⟩ := R2.ok _ _ ex
    obtain ⟨b, ws, rfl, hq, s2'⟩ := sitems_rv R2 r2 ey
    have hlen := s.length
    have hlen2 := s2'.length
    obtain ⟨R3, t3⟩ := R2.put (o := .lst (vs ++ ws)) (m := .lst (xs ++ ys)) ex ⟨_, upd_same, s.append s2'⟩
    exact ⟨_, b, vs, ws, rfl, rfl, hv, hq, by omega, kk F2 _ _ (.d .none) _ ((st1.trans st2).trans t3) R3 (.d .non) q⟩
  · exact q.elim
end
end DL
end
section
set_option Elab.async false
set_option linter.all false
set_option maxRecDepth 100000
set_option maxHeartbeats 4000000
namespace DL
open PySem L2 PyProof.Rows
variable [tB : Tb] [gR : Gr]
theorem bb_len : bootBuiltins "len" = some (.builtin "len") := by decide +kernel
theorem bb_sum : bootBuiltins "sum" = some (.builtin "sum") := by decide +kernel
theorem bb_max : bootBuiltins "max" = some (.builtin "max") := by decide +kernel
theorem bb_any : bootBuiltins "any" = some (.builtin "any") := by decide +kernel
theorem bb_sorted : bootBuiltins "sorted" = some (.builtin "sorted") := by decide +kernel
theorem bt_tuple : bootBuiltins "tuple" = some (.type "tuple") := by decide +kernel
theorem bt_list : bootBuiltins "list" = some (.type "list") := by decide +kernel
theorem bt_int : bootBuiltins "int" = some (.type "int") := by decide +kernel
theorem bt_set : bootBuiltins "set" = some (.type "set") := by decide +kernel
section
variable {P : Program} {w : World} {K : PySem.W.Frag} {mg : Str → Option Value} {base : Heap} {X : Cx} {N : List Str} {sc fs : Scope} {k : Nat}
/-- a def of the text that keeps a promise -/
def Cl (P : Program) (w : World) (K : PySem.W.Frag) (mg : Str → Option Value) (base : Heap) (x : Str) (j : Nat) (sp : SpD) : Prop :=
  ∃ (f : Addr) (fd : FuncData) (ps : List Str), mg x = some (.ref f) ∧ PySem.W.keepIn K (.ref f) = true ∧ FnOk P w K mg base CX0 j f fd ps (hsp K sp) ∧ Binds K fd ps []
theorem de_callC {x : Str} {e : Expr} {es : List Expr} {ta : TDa} {p pos : Pos} {sp : SpD} {j : Nat} (c : Cok P w K mg base X N sc fs k) (hg : glB sc x = true) (C : Cl P w K mg base x j sp) (hj : j ≤ k)
    (ha : DA X (e :: es) ta) (he : starEach (e :: es) X.env = (false, eval e X.env) :: starEach es X.env := by rfl) (hpl : (backTo pos (starEach es X.env)).any (·.1) = false := by rfl) : DE X (.Call (.Name x p) (e :: es) [] pos) (qCall sp ta) := by
  obtain ⟨f, fd, ps, hm, hk, G, b⟩ := C
  exact de_call c hg hm hk G hj b ha he hpl
theorem de_gint {x : Str} {i : Int} {pos : Pos} (c : Cok P w K mg base X N sc fs k) (hg : glB sc x = true) (hm : ∃ t, mg x = some (.int i t)) : DE X (.Name x pos) (qc (.d (.int i))) := by
  obtain ⟨t, hm⟩ := hm
  have g := gl_of c hg
  exact ⟨⟨_, pe_glob g.1 (by rw [c.hmg]; exact hm) (v := .int i) ⟨t, rfl⟩ g.2.2, fun F σ H ε st Qd Q R E q kk => kk.at R (.d (.int i)) q⟩⟩
theorem Cok.hu65 (c : Cok P w K mg base X N sc fs k) : X.A.units + 64 < cLine := c.hu64
theorem rp_all : ∀ {F : Hp} (ns : List Int), RpAll K F (ns.map V.int) (ns.map .int)
  | _, [] => .nil
  | _, n :: ns => .cons (.int n) (rp_all ns)
/-- the law's entry -/
theorem law_start {sp : SpD} {n : Nat} (h : ∀ ns : List Int, ns.length ≤ n → sp [.d (.list (ns.map .int))] (fun _ => none) (fun x _ => x = .d (.bool true))) {H : Hp} {a : Addr} {ns : List Int} {E : XK} (hl : ns.length ≤ n) (hb : Only H) (hS : SqL K H a (ns.map V.int)) (hn : tB.T = [] := by rfl) : hsp K sp [.ref a] H (fun v _ => v = .bl true) E :=
  ⟨H, fun _ => none, _, _, ⟨fun _ _ e => ⟨e, rfl⟩, fun _ _ e => (nomatch e), fun p hp => by rw [hn] at hp; cases hp⟩, .cons (.d (.lst hS (rp_all ns))) .nil, h ns hl, fun F v H' x st' _ _ r q => by subst q; exact rv_bool r⟩
/-- [f x for x in xs if p x], nothing of the store touched -/
theorem comp_fm {inv : Sto → Prop} {g : TDg} {tt : TDt} {te : TD} {ε : Env} {Kc : List DV → Sto → Prop} {st : Sto} (p : DV → Bool) (f : DV → DV) (hi : inv st) : ∀ (xs acc : List DV),
    (∀ x ∈ xs, ∀ (Q1 : DV → Sto → Prop) (Q2 : Sto → Prop), (if p x = true then Q1 (f x) st else Q2 st) → g x ε st fun ε1 s1 => tt ε1 s1 fun b s2 => if b = true then te ε1 s2 Q1 else Q2 s2) → Kc (acc ++ (xs.filter p).map f) st → qComp inv g tt te ε Kc xs acc st
  | [], acc, _, h => ⟨hi, by rw [List.filter_nil, List.map_nil, List.append_nil] at h; exact h⟩
  | x :: xs, acc, hx, h => by
    refine ⟨hi, ?_⟩
    refine hx x List.mem_cons_self (fun y s3 => qComp inv g tt te ε Kc xs (acc ++ [y]) s3) (fun s2 => qComp inv g tt te ε Kc xs acc s2) ?_
    cases e : p x with
    | true =>
      rw [if_pos rfl]
      refine comp_fm p f hi xs (acc ++ [f x]) (fun y hy => hx y (List.mem_cons_of_mem _ hy)) ?_
      rw [List.filter_cons, if_pos e, List.map_cons] at h
      rw [List.append_assoc]
      exact h
    | false =>
      rw [if_neg Bool.false_ne_true]
      refine comp_fm p f hi xs acc (fun y hy => hx y (List.mem_cons_of_mem _ hy)) ?_
      rw [List.filter_cons, if_neg (by rw [e]; exact Bool.false_ne_true)] at h
      exact h
theorem seq {t u : TDs} {D : EndsD} {ε : Env} {st : Sto} (h : ∀ N : Env → Sto → Prop, (∀ ε s, u D ε s → N ε s) → t { D with nx := N } ε st) : qSeq t u D ε st := h _ fun _ _ x => x
/-- a for, its items known -/
theorem for_by {inv : Sto → Prop} {g : TDg} {tb : TDs} {D : EndsD} {xs : List DV} {ε : Env} {st : Sto} (W : List DV → Env → Sto → Prop) (h0 : W xs ε st) (hi : ∀ ys ε st, W ys ε st → inv st)
    (hs : ∀ x ys ε st, x ∈ xs → W (x :: ys) ε st → ∀ L : Env → Sto → Prop, (∀ ε' st', W ys ε' st' → L ε' st') → g x ε st fun ε1 s1 => tb { D with nx := L, ct := L, bk := D.nx } ε1 s1) (hd : ∀ ε st, W [] ε st → D.nx ε st) : qLoop inv g tb D xs ε st := by
  have : ∀ ys ε st, (∀ y ∈ ys, y ∈ xs) → W ys ε st → qLoop inv g tb D ys ε st := by
    intro ys
    induction ys with
    | nil => exact fun ε st _ h => ⟨hi _ _ _ h, hd _ _ h⟩
    | cons y ys ih => exact fun ε st hy h => ⟨hi _ _ _ h, hs y ys ε st (hy y List.mem_cons_self) h _ fun ε' st' => ih ε' st' fun z hz => hy z (List.mem_cons_of_mem _ hz)⟩
  exact this xs ε st (fun _ z => z) h0
end
end DL
end
section
set_option Elab.async false
set_option linter.all false
set_option maxRecDepth 100000
set_option maxHeartbeats 4000000
namespace DL
open PySem L2 PyProof.Rows
def lexL : List Int → List Int → Bool
  | [], [] => false
  | [], _ :: _ => true
  | _ :: _, [] => false
  | x :: xs, y :: ys => decide (x < y) || (decide (x = y) && lexL xs ys)
theorem lexL_irr : ∀ x : List Int, lexL x x = false
  | [] => rfl
  | x :: xs => by simp [lexL, lexL_irr xs]
theorem lexL_tr : ∀ {x y z : List Int}, lexL x y = true → lexL y z = true → lexL x z = true
  | [], [], _, h, _ => by cases h
  | [], _ :: _, [], _, h => by cases h
  | [], _ :: _, _ :: _, _, _ => rfl
  | _ :: _, [], _, h, _ => by cases h
  | _ :: _, _ :: _, [], _, h => by cases h
  | x :: xs, y :: ys, z :: zs, h1, h2 => by
    simp only [lexL, Bool.or_eq_true, Bool.and_eq_true, decide_eq_true_eq] at h1 h2 ⊢
    rcases h1 with h1 | ⟨h1, h3⟩ <;> rcases h2 with h2 | ⟨h2, h4⟩
    · exact .inl (by omega)
    · exact .inl (by omega)
    · exact .inl (by omega)
    · exact .inr ⟨by omega, lexL_tr h3 h4⟩
theorem lexL_tri : ∀ (x y : List Int), lexL x y = true ∨ x = y ∨ lexL y x = true
  | [], [] => .inr (.inl rfl)
  | [], _ :: _ => .inl rfl
  | _ :: _, [] => .inr (.inr rfl)
  | x :: xs, y :: ys => by
    simp only [lexL, Bool.or_eq_true, Bool.and_eq_true, decide_eq_true_eq, List.cons.injEq]
    rcases Int.lt_trichotomy x y with h | h | h
    · exact .inl (.inl h)
    · rcases lexL_tri xs ys with k | k | k
      · exact .inl (.inr ⟨h, k⟩)
      · exact .inr (.inl ⟨h, k⟩)
      · exact .inr (.inr (.inr ⟨h.symm, k⟩))
    · exact .inr (.inr (.inl h))
/-- strictly rising -/
abbrev RisL (l : List (List Int)) : Prop := l.Pairwise fun x y => lexL x y = true
def insU (x : List Int) : List (List Int) → List (List Int)
  | [] => [x]
  | y :: l => if x = y then y :: l else if lexL x y = true then x :: y :: l else y :: insU x l
def sortU (l : List (List Int)) : List (List Int) := l.foldr insU []
theorem mem_insU {x z : List Int} : ∀ {l : List (List Int)}, z ∈ insU x l ↔ z = x ∨ z ∈ l
  | [] => by simp [insU]
  | y :: l => by
    unfold insU
    split
    · rename_i h
      subst h
      simp
    · split
      · simp
      · simp only [List.mem_cons, mem_insU (l := l)]
        constructor
        · rintro (h | h | h)
          · exact .inr (.inl h)
          · exact .inl h
          · exact .inr (.inr h)
        · rintro (h | h | h)
          · exact .inr (.inl h)
          · exact .inl h
          · exact .inr (.inr h)
theorem ris_insU {x : List Int} : ∀ {l : List (List Int)}, RisL l → RisL (insU x l)
  | [], _ => List.pairwise_singleton _ _
  | y :: l, h => by
    obtain ⟨h1, h2⟩ := List.pairwise_cons.mp h
    unfold insU
    split
    · exact h
    · rename_i hne
      split
      · rename_i hl
        refine List.pairwise_cons.mpr ⟨fun z hz => ?_, h⟩
        rcases List.mem_cons.mp hz with rfl | hz
        · exact hl
        · exact lexL_tr hl (h1 z hz)
      · rename_i hl
        refine List.pairwise_cons.mpr ⟨fun z hz => ?_, ris_insU h2⟩
        rcases mem_insU.mp hz with rfl | hz
        · rcases lexL_tri z y with k | k | k
          · exact absurd k hl
          · exact absurd k hne
          · exact k
        · exact h1 z hz
theorem mem_sortU {z : List Int} : ∀ {l : List (List Int)}, z ∈ sortU l ↔ z ∈ l
  | [] => Iff.rfl
  | x :: l => by
    show z ∈ insU x (sortU l) ↔ _
    rw [mem_insU, mem_sortU (l := l), List.mem_cons]
theorem ris_sortU : ∀ (l : List (List Int)), RisL (sortU l)
  | [] => List.Pairwise.nil
  | x :: l => ris_insU (ris_sortU l)
theorem ris_eq : ∀ {l m : List (List Int)}, RisL l → RisL m → (∀ x, x ∈ l ↔ x ∈ m) → l = m
  | [], [], _, _, _ => rfl
  | [], y :: m, _, _, h => absurd ((h y).mpr List.mem_cons_self) (by simp)
  | x :: l, [], _, _, h => absurd ((h x).mp List.mem_cons_self) (by simp)
  | x :: l, y :: m, hl, hm, h => by
    obtain ⟨l1, l2⟩ := List.pairwise_cons.mp hl
    obtain ⟨m1, m2⟩ := List.pairwise_cons.mp hm
    have e : x = y := by
      rcases List.mem_cons.mp ((h x).mp List.mem_cons_self) with e | hx
      · exact e
      · rcases List.mem_cons.mp ((h y).mpr List.mem_cons_self) with e | hy
        · exact e.symm
        · have := lexL_tr (l1 y hy) (m1 x hx)
          rw [lexL_irr] at this
          cases this
    subst e
    refine congrArg (x :: ·) (ris_eq l2 m2 fun z => ?_)
    constructor
    · intro hz
      rcases List.mem_cons.mp ((h z).mp (List.mem_cons_of_mem _ hz)) with e | hz'
      · subst e
        have := l1 z hz
        rw [lexL_irr] at this
        cases this
      · exact hz'
    · intro hz
      rcases List.mem_cons.mp ((h z).mpr (List.mem_cons_of_mem _ hz)) with e | hz'
      · subst e
        have := m1 z hz
        rw [lexL_irr] at this
        cases this
      · exact hz'
theorem sortU_eq {l m : List (List Int)} (hm : RisL m) (h : ∀ x, x ∈ l ↔ x ∈ m) : sortU l = m := ris_eq (ris_sortU l) hm fun x => mem_sortU.trans (h x)
theorem sortU_len : ∀ (l : List (List Int)), (sortU l).length ≤ l.length := by
  have : ∀ (x : List Int) (l : List (List Int)), (insU x l).length ≤ l.length + 1 := by
    intro x l
    induction l with
    | nil => simp [insU]
    | cons y l ih =>
      unfold insU
      split
      · simp
      · split
        · simp
        · simp; omega
  intro l
  induction l with
  | nil => exact Nat.le_refl _
  | cons x l ih =>
    have := this x (sortU l)
    show (insU x (sortU l)).length ≤ _
    rw [List.length_cons]
    omega
def tints : List DV → Option (List (List Int))
  | [] => some []
  | .d (.tuple xs) :: r => (match dints (xs.map .d) with | some a => (tints r).map (a :: ·) | none => none)
  | _ :: _ => none
theorem tints_map : ∀ l : List (List Int), tints ((l.map fun a => PyData.tuple (a.map .int)).map .d) = some l
  | [] => rfl
  | a :: l => by
    have e : dints ((a.map PyData.int).map DV.d) = some a := by rw [List.map_map]; exact dints_map a
    rw [List.map_cons, List.map_cons, tints, e, tints_map l]
    rfl
section
variable {P : Program} {w : World} {K : PySem.W.Frag} {mg : Str → Option Value} {base : Heap} {X : Cx} {N : List Str} {sc fs : Scope} {k : Nat}
theorem tints_rvs {F : Hp} : ∀ {vs : List V} {xs : List DV} {ts : List (List Int)}, RVs K F vs xs → tints xs = some ts → ∃ ks : List (Addr × List Int), vs = ks.map (fun p => V.ref p.1) ∧ ts = ks.map (·.2) ∧ ∀ p ∈ ks, F p.1 = some (.tup (p.2.map V.int))
  | _, [], ts, r, h => by cases h; cases r; exact ⟨[], rfl, rfl, fun p hp => nomatch hp⟩
  | v :: vs, .d (.tuple ds) :: xs, ts, .cons r q, h => by
    unfold tints at h
    split at h
    · rename_i a ea
      cases e : tints xs with
      | none => rw [e] at h; cases h
      | some l =>
        rw [e] at h
        cases h
        obtain ⟨ks, h1, h2, h3⟩ := tints_rvs q e
        cases r with
        | d r =>
          cases r with
          | tup q2 s2 =>
            rename_i p ws
            obtain ⟨e1, _⟩ := dints_rvs s2.rvs ea
            subst e1
            refine ⟨(p, a) :: ks, by rw [h1]; rfl, by rw [h2]; rfl, fun z hz => ?_⟩
            rcases List.mem_cons.mp hz with e | hz
            · rw [e]; exact q2
            · exact h3 z hz
    · cases h
  | _, .d .none :: _, _, _, h => by cases h
  | _, .d (.bool _) :: _, _, _, h => by cases h
  | _, .d (.int _) :: _, _, _, h => by cases h
  | _, .d (.str _) :: _, _, _, h => by cases h
  | _, .d (.list _) :: _, _, _, h => by cases h
  | _, .d (.dict _) :: _, _, _, h => by cases h
  | _, .r _ :: _, _, _, h => by cases h
  | _, .t _ :: _, _, _, h => by cases h
end
end DL
end
section
set_option Elab.async false
set_option linter.all false
set_option maxRecDepth 100000
set_option maxHeartbeats 4000000
namespace DL
open PySem L2 PyProof.Rows
variable [tB : Tb] [gR : Gr]
section
variable {P : Program} {w : World} {K : PySem.W.Frag} {mg : Str → Option Value} {base : Heap} {X : Cx} {N : List Str} {sc fs : Scope} {k : Nat}
theorem readsAll_of {h : Heap} : ∀ {vs : List Value} {ns : List Int}, IntsAre vs ns → ReadsAll h vs (ns.map .int) []
  | _, _, .nil => .nil
  | _, _, .cons n t r => .cons (.int n t) (readsAll_of r)
def rMax1 (K : PySem.W.Frag) : List V → Hp → VK → Prop := fun vs H Q => ∃ (a : Addr) (n : Int) (ns : List Int), vs = [V.ref a] ∧ (SqL K H a ((n :: ns).map V.int) ∨ SqT K H a ((n :: ns).map V.int)) ∧ Q (.int (ns.foldl max n)) H
theorem alike_ints (ns : List Int) : PySem.W.AlikeAll (ns.map PyData.int) := PySem.W.alikeAll_datum ns
theorem dep_ints : ∀ ns : List Int, PyData.depthAll (ns.map PyData.int) = 0
  | [] => rfl
  | n :: ns => by
    simp only [List.map_cons, PyData.depthAll, PyData.depth, dep_ints ns]
    rfl
theorem cr_max1 (hc : X.calm = true) (hu : X.A.units + 64 < cLine) : CallR X (.builtin "max") (rMax1 X.K) := by
  intro pins s σ H vs us Q I r h
  obtain ⟨a, n, ns, rfl, hs, q⟩ := h
  rw [Vals.ref1 r]
  have fin : ∀ (v : Value) h' tk bs, PySem.Reads h' v (PySem.W.maxD (.int n) (ns.map .int)) bs → (∀ b o, s.heap.get? b = some o → h'.get? b = some o) → ∃ x H', Inv X pins σ H' { s with heap := h', toks := tk } ∧ RelV x v ∧ Q x H' := by
    intro v h' tk bs hr hk
    rw [PySem.W.maxD_ints] at hr
    cases hr with
    | int _ t => exact ⟨.int _, H, I.kept fun b o e => hk b o e, ⟨t, rfl⟩, q⟩
  rcases hs with hs | hs
  · obtain ⟨its, rv, hl, _⟩ := I.list hs
    exact PySem.W.max_list_data (I.ok.hd hc) hl.isList (readsAll_of rv.ints) (alike_ints (n :: ns)) (by rw [← List.map_cons, dep_ints]; omega) fun i v h' tk bs _ hr hk => fin v h' tk bs hr hk
  · obtain ⟨its, rv, ⟨ol, o1, o2, m, o3⟩, _⟩ := I.tuple hs
    exact PySem.W.max_tuple_data (I.ok.hd hc) ⟨ol, o1, o2, m, o3⟩ (readsAll_of rv.ints) (alike_ints (n :: ns)) (by rw [← List.map_cons, dep_ints]; omega) fun i v h' tk bs _ hr hk => fin v h' tk bs hr hk
def qMax1 : RLD := fun xs st Q => match xs with
  | [x] => (match (sitems st x).bind dints with | some (n :: ns) => Q (.d (.int (ns.foldl max n))) st | _ => False)
  | _ => False
def qMin1 : RLD := fun xs st Q => match xs with
  | [x] => (match (sitems st x).bind dints with | some (n :: ns) => Q (.d (.int (ns.foldl min n))) st | _ => False)
  | _ => False
theorem c_max1 (hc : X.calm = true) (hu : X.A.units + 64 < cLine) : ∃ r', CallR X (.builtin "max") r' ∧ SL X.K r' qMax1 := by
  refine ⟨_, cr_max1 hc hu, ?_⟩
  intro F H st vs xs Qd Q R rv h kk
  unfold qMax1 at h
  split at h
  rotate_left
  · exact h.elim
  obtain ⟨v, rfl, r⟩ := rvs1 rv
  split at h
  rotate_left
  · exact h.elim
  rename_i n ns e
  obtain ⟨l, e1, e2⟩ := Option.bind_eq_some_iff.mp e
  obtain ⟨p, ys, rfl, hq, s⟩ := sitems_rv R r e1
  obtain ⟨rfl, _⟩ := dints_rvs s e2
  exact ⟨p, n, ns, rfl, hq, kk.at R (.d (.int _)) h⟩
end
end DL
end
section
set_option Elab.async false
set_option linter.all false
set_option maxRecDepth 100000
set_option maxHeartbeats 4000000
namespace DL
open PySem L2 PyProof.Rows
variable [tB : Tb] [gR : Gr]
section
variable {P : Program} {w : World} {K : PySem.W.Frag} {mg : Str → Option Value} {base : Heap} {X : Cx} {N : List Str} {sc fs : Scope} {k : Nat}
/-- [e for x in a if .. for y in b if ..] -/
def qCompO (inv : Sto → Prop) (g : TDg) (tt : TDt) (ti1 : TDi) (g1 : TDg) (tt1 : TDt) (te : TD) (vs1 : List Nat) (ε : Env) (Kc : List DV → Sto → Prop) : List DV → List DV → Sto → Prop
  | [], acc, st => inv st ∧ Kc acc st
  | x :: r, acc, st => inv st ∧ g x ε st fun ε1 s1 => tt ε1 s1 fun b s2 => if b = true then ti1 ε1 s2 fun items1 inv1 s3 => acc.length + items1.length ≤ sizeLine ∧ qComp inv1 g1 tt1 te (wipeD ε1 vs1) (fun acc' s4 => qCompO inv g tt ti1 g1 tt1 te vs1 ε Kc r acc' s4) items1 acc s3
      else qCompO inv g tt ti1 g1 tt1 te vs1 ε Kc r acc s2
def qLc2 (m : Bool) (ti : TDi) (g : TDg) (tt : TDt) (ti1 : TDi) (g1 : TDg) (tt1 : TDt) (te : TD) (vs vs1 : List Nat) : TD := fun ε st Q => ti ε st fun items inv s1 => qCompO inv g tt ti1 g1 tt1 te vs1 (wipeD ε vs) (fun acc s2 => newL m acc s2 Q) items [] s1
end
end DL
end
section
set_option Elab.async false
set_option linter.all false
set_option maxRecDepth 100000
set_option maxHeartbeats 4000000
namespace DL
open PySem L2 PyProof.Rows
variable [tB : Tb] [gR : Gr]
section
variable {P : Program} {w : World} {K : PySem.W.Frag} {mg : Str → Option Value} {base : Heap} {X : Cx} {N : List Str} {sc fs : Scope} {k : Nat}
def qComb : RLD := fun xs st Q => match xs with
  | [.d (.int a), .d (.int b)] => 0 ≤ a ∧ 0 ≤ b ∧ a < 2 ^ 64 ∧ (b ≤ 9000 ∨ a ≤ 18000) ∧ Q (.d (.int (PySem.W.mcComb a b))) st
  | _ => False
def qGcd : RLD := fun xs st Q => match xs with
  | [.d (.int a), .d (.int b)] => Q (.d (.int ((Nat.gcd a.natAbs b.natAbs : Nat) : Int))) st
  | _ => False
end
end DL
end
section
set_option Elab.async false
set_option linter.all false
set_option maxRecDepth 100000
set_option maxHeartbeats 4000000
namespace DL
open PySem PySem.Spec L2 PyProof.Rows
variable [tB : Tb] [gR : Gr]
section
variable {P : Program} {w : World} {K : PySem.W.Frag} {mg : Str → Option Value} {base : Heap} {X : Cx} {N : List Str} {sc fs : Scope} {k : Nat}
/-- list(range(e)) -/
def qListRg (m : Bool) (te : TD) : TD := fun ε st Q => te ε st fun x s1 => match x with
  | .d (.int n) => 0 ≤ n ∧ n ≤ 16777216 ∧ newL m (rngD 0 n.toNat) s1 Q
  | _ => False
end
end DL
end
section
set_option Elab.async false
set_option linter.all false
set_option maxRecDepth 100000
set_option maxHeartbeats 4000000
namespace BS
open PySem L2
/-- the masks that come -/
def MaskB (m : Nat) : Prop := m = 7 ∨ m = 31 ∨ m = 127 ∨ m = 511 ∨ m = 2047 ∨ m = 8191
/-- the slots that n steps from i meet, as bits -/
def bitsOf (m : Nat) : Nat → Nat → Nat → Nat
  | 0, _, acc => acc
  | n + 1, i, acc => bitsOf m n ((i * 5 + 1) % (m + 1)) (acc ||| (1 <<< i))
theorem bitsOf_spec (m : Nat) : ∀ (n a acc j : Nat), (bitsOf m n (lcgN m a) acc).testBit j = true → acc.testBit j = true ∨ ∃ b, b < n ∧ lcgN m (a + b) = j
  | 0, _, _, _, h => .inl h
  | n + 1, a, acc, j, h => by
    rcases bitsOf_spec m n (a + 1) _ j h with h | ⟨b, hb, e⟩
    · rw [Nat.testBit_or, Bool.or_eq_true] at h
      rcases h with h | h
      · exact .inl h
      · refine .inr ⟨0, Nat.zero_lt_succ _, ?_⟩
        rw [Nat.shiftLeft_eq, Nat.one_mul, Nat.testBit_two_pow] at h
        exact of_decide_eq_true h
    · exact .inr ⟨b + 1, by omega, by rw [show a + (b + 1) = a + 1 + b by omega]; exact e⟩
theorem met {m : Nat} (h : bitsOf m (m + 1) 0 0 = 2 ^ (m + 1) - 1) {j : Nat} (hj : j ≤ m) : ∃ b, b ≤ m ∧ lcgN m b = j := by
  have e : (bitsOf m (m + 1) (lcgN m 0) 0).testBit j = true := by
    show (bitsOf m (m + 1) 0 0).testBit j = true
    rw [h, Nat.testBit_two_pow_sub_one]
    exact decide_eq_true (by omega)
  rcases bitsOf_spec m (m + 1) 0 0 j e with h | ⟨b, hb, e⟩
  · rw [Nat.zero_testBit] at h
    cases h
  · exact ⟨b, by omega, by rw [← e, Nat.zero_add]⟩
theorem all7 : bitsOf 7 8 0 0 = 2 ^ 8 - 1 := by decide +kernel
theorem all31 : bitsOf 31 32 0 0 = 2 ^ 32 - 1 := by decide +kernel
theorem all127 : bitsOf 127 128 0 0 = 2 ^ 128 - 1 := by decide +kernel
theorem all511 : bitsOf 511 512 0 0 = 2 ^ 512 - 1 := by decide +kernel
theorem all2047 : bitsOf 2047 2048 0 0 = 2 ^ 2048 - 1 := by decide +kernel
theorem all8191 : bitsOf 8191 8192 0 0 = 2 ^ 8192 - 1 := by decide +kernel
theorem lcg_met {m : Nat} (hm : MaskB m) {j : Nat} (hj : j ≤ m) : ∃ b, b ≤ m ∧ lcgN m b = j := by
  rcases hm with rfl | rfl | rfl | rfl | rfl | rfl
  · exact met all7 hj
  · exact met all31 hj
  · exact met all127 hj
  · exact met all511 hj
  · exact met all2047 hj
  · exact met all8191 hj
/-- the last step of a round, without the steps -/
def lastOf (m : Nat) : Nat → Nat → Nat
  | 0, i => i
  | n + 1, i => lastOf m n ((i * 5 + 1) % (m + 1))
theorem lastOf_spec (m : Nat) : ∀ (n a : Nat), lastOf m n (lcgN m a) = lcgN m (a + n)
  | 0, _ => rfl
  | n + 1, a => by
    have := lastOf_spec m n (a + 1)
    rw [show a + (n + 1) = a + 1 + n by omega]
    exact this
theorem round7 : lastOf 7 8 0 = 0 := by decide +kernel
theorem round31 : lastOf 31 32 0 = 0 := by decide +kernel
theorem round127 : lastOf 127 128 0 = 0 := by decide +kernel
theorem round511 : lastOf 511 512 0 = 0 := by decide +kernel
theorem round2047 : lastOf 2047 2048 0 = 0 := by decide +kernel
theorem round8191 : lastOf 8191 8192 0 = 0 := by decide +kernel
theorem lcg_again {m : Nat} (hm : MaskB m) : lcgN m (m + 1) = 0 := by
  have key : ∀ m, lastOf m (m + 1) 0 = 0 → lcgN m (m + 1) = 0 := fun m h => by
    have := lastOf_spec m (m + 1) 0
    rw [Nat.zero_add] at this
    rw [← this]
    exact h
  rcases hm with rfl | rfl | rfl | rfl | rfl | rfl
  · exact key _ round7
  · exact key _ round31
  · exact key _ round127
  · exact key _ round511
  · exact key _ round2047
  · exact key _ round8191
theorem lcg_per {m : Nat} (hm : MaskB m) (k : Nat) : lcgN m (m + 1 + k) = lcgN m k := by
  induction k with
  | zero => exact lcg_again hm
  | succ k ih =>
    show (lcgN m (m + 1 + k) * 5 + 1) % (m + 1) = _
    rw [ih]
    rfl
/-- each slot begins a run early enough -/
theorem run_met {m : Nat} (hm : MaskB m) (h : Int) {j : Nat} (hj : j ≤ m) : ∃ n, n ≤ m + 12 ∧ runI m (SetTable.bits h) n = j := by
  obtain ⟨a, ha, ea⟩ := lcg_met hm (runI_le m (SetTable.bits h) 12)
  obtain ⟨b, hb, eb⟩ := lcg_met hm hj
  have step : ∀ k, runI m (SetTable.bits h) (12 + k) = lcgN m (a + k) := fun k => by rw [runI_tail (bits_lt h), ← ea, lcgN_add]
  by_cases c : b < a
  · refine ⟨12 + (b + (m + 1) - a), by omega, ?_⟩
    rw [step, show a + (b + (m + 1) - a) = m + 1 + b by omega, lcg_per hm, eb]
  · refine ⟨12 + (b - a), by omega, ?_⟩
    rw [step, show a + (b - a) = b by omega, eb]
theorem way_met {m : Nat} (hm : MaskB m) (h : Int) {j : Nat} (hj : j ≤ m) : ∃ k, k < 10 * SetTable.turns m ∧ way m h k = j := by
  obtain ⟨n, hn, e⟩ := run_met hm h hj
  obtain ⟨k, hk, e2⟩ := run_nth m (SetTable.bits h) n
  refine ⟨k, by unfold SetTable.turns; omega, ?_⟩
  show (nth m (runAt m (SetTable.bits h % (m + 1)) (SetTable.bits h)) k).j = j
  rw [e2]
  exact e
theorem way_in (m : Nat) (h : Int) (k : Nat) : way m h k ≤ m := by
  have hi : SetTable.bits h % (m + 1) ≤ m := Nat.le_of_lt_succ (Nat.mod_lt _ (Nat.succ_pos _))
  have r := runEnd_bd hi
  have q := nth_in (m := m) k (runAt m (SetTable.bits h % (m + 1)) (SetTable.bits h)) (show SetTable.bits h % (m + 1) + (SetTable.runEnd m (SetTable.bits h % (m + 1)) - SetTable.bits h % (m + 1)) ≤ m by omega)
  show (nth m (runAt m (SetTable.bits h % (m + 1)) (SetTable.bits h)) k).j ≤ m
  omega
theorem odd {m : Nat} (h : MaskB m) : m % 2 = 1 := by
  rcases h with rfl | rfl | rfl | rfl | rfl | rfl <;> rfl
theorem turns_le {m : Nat} (h : MaskB m) : 10 * SetTable.turns m < 100000 := by
  unfold SetTable.turns
  rcases h with rfl | rfl | rfl | rfl | rfl | rfl <;> decide
end BS
end
section
set_option Elab.async false
set_option linter.all false
set_option maxRecDepth 100000
set_option maxHeartbeats 4000000
namespace BS
open PySem L2
/-- a table in which each hash is met on its way ahead of any empty slot -/
structure Tb (t : SetTable) (hs : List Int) : Prop where
  ris : L2.Ris t.place.toList
  dm : t.dummies = #[]
  sz : t.place.toList.length = hs.length
  mok : MaskB t.mask
  bd : ∀ x ∈ t.place.toList, x ≤ t.mask
  reach : ∀ (i : Nat) (h : Int) (j : Nat), hs[i]? = some h → t.place.toList[i]? = some j → ∃ k, way t.mask h k = j ∧ ∀ k', k' < k → way t.mask h k' ∈ t.place.toList
theorem Tb.first {t : SetTable} {hs : List Int} (T : Tb t hs) (hl : hs.length ≤ t.mask) (h : Int) : ∃ K, K < 10 * SetTable.turns t.mask ∧ way t.mask h K ∉ t.place.toList ∧ ∀ k, k < K → way t.mask h k ∈ t.place.toList := by
  obtain ⟨j, hj, hn⟩ := st_missing t.place.toList (t.mask + 1) (by rw [T.sz]; omega)
  obtain ⟨k, hk, rfl⟩ := way_met T.mok h (j := j) (by omega)
  obtain ⟨K, h1, h2, h3⟩ := st_least (p := fun k => way t.mask h k ∉ t.place.toList) k hn
  exact ⟨K, by omega, h2, fun k' hk' => Classical.byContradiction fun c => h3 k' hk' c⟩
theorem Tb.before {t : SetTable} {hs : List Int} (T : Tb t hs) {h : Int} {K i j : Nat} (hK : way t.mask h K ∉ t.place.toList) (hi : hs[i]? = some h) (hj : t.place.toList[i]? = some j) : ∃ k, k < K ∧ way t.mask h k = j := by
  obtain ⟨k, e, hb⟩ := T.reach i h j hi hj
  refine ⟨k, Classical.byContradiction fun c => ?_, e⟩
  by_cases d : K = k
  · subst d
    exact hK (e ▸ List.mem_of_getElem? hj)
  · exact hK (hb K (by omega))
theorem Tb.put {t : SetTable} {hs : List Int} (T : Tb t hs) {h : Int} {K : Nat} (hK : way t.mask h K ∉ t.place.toList) (hb : ∀ k, k < K → way t.mask h k ∈ t.place.toList) :
    SetTable.below t.place (way t.mask h K) ≤ hs.length ∧ Tb (t.put (way t.mask h K)).1 (hs.take (SetTable.below t.place (way t.mask h K)) ++ h :: hs.drop (SetTable.below t.place (way t.mask h K))) ∧ (t.put (way t.mask h K)).1.fill = hs.length + 1 := by
  have hjm := way_in t.mask h K
  generalize hj : way t.mask h K = j at *
  have hp : SetTable.below t.place j ≤ t.place.toList.length := by
    rw [Array.length_toList]
    exact (below_cut T.ris j).1
  have hph : SetTable.below t.place j ≤ hs.length := by rw [← T.sz]; exact hp
  have hpp := put_place t j
  have hlen : (t.put j).1.place.toList.length = hs.length + 1 := by rw [hpp, len_ins _ hp, T.sz]
  have up : ∀ {x : Nat}, x ∈ t.place.toList → x ∈ (t.put j).1.place.toList := fun hx => by
    rw [hpp]
    exact mem_ins.2 (.inr hx)
  refine ⟨hph, ⟨ris_insert T.ris fun e => hK (List.mem_of_getElem? (by rw [Array.getElem?_toList]; exact e)), put_dm T.dm j, ?_, T.mok, fun x hx => ?_, fun i h' j' h1 h2 => ?_⟩, ?_⟩
  · rw [hlen, len_ins _ hph]
  · rw [hpp] at hx
    rcases mem_ins.1 hx with rfl | z
    · exact hjm
    · exact T.bd x z
  · rw [tins_get hs hph] at h1
    rw [hpp, tins_get _ hp] at h2
    show ∃ k, way t.mask h' k = j' ∧ ∀ k', k' < k → way t.mask h' k' ∈ (t.put j).1.place.toList
    have old : ∀ i', hs[i']? = some h' → t.place.toList[i']? = some j' → ∃ k, way t.mask h' k = j' ∧ ∀ k', k' < k → way t.mask h' k' ∈ (t.put j).1.place.toList := fun i' a b => by
      obtain ⟨k, e, z⟩ := T.reach i' h' j' a b
      exact ⟨k, e, fun k' hk' => up (z k' hk')⟩
    by_cases c : i < SetTable.below t.place j
    · rw [if_pos c] at h1 h2
      exact old i h1 h2
    · rw [if_neg c] at h1 h2
      by_cases d : i = SetTable.below t.place j
      · rw [if_pos d] at h1 h2
        cases h1
        cases h2
        exact ⟨K, hj, fun k' hk' => up (hb k' hk')⟩
      · rw [if_neg d] at h1 h2
        exact old (i - 1) h1 h2
  · show (t.put j).1.place.size + (t.put j).1.dummies.size = hs.length + 1
    rw [← Array.length_toList, hlen, put_dm T.dm j]
    rfl
theorem free_at {m : Nat} (hm : MaskB m) (owner : Array (Option Nat)) (h : Int) {j : Nat} (hj : j ≤ m) (hf : oAt owner j = none) :
    ∃ K, SetTable.layClean.free m owner (SetTable.turns m) (SetTable.bits h % (m + 1)) (SetTable.bits h) = some (way m h K) ∧ oAt owner (way m h K) = none ∧ ∀ k, k < K → oAt owner (way m h k) ≠ none := by
  obtain ⟨n, hn, e⟩ := run_met hm h hj
  have hw : way m h (off m (SetTable.bits h % (m + 1)) (SetTable.bits h) n) = j := by
    show (nth m (runAt m (SetTable.bits h % (m + 1)) (SetTable.bits h)) _).j = j
    rw [nth_off, itL_run]
    exact e
  obtain ⟨K, k1, k2, k3⟩ := st_least (p := fun k => oAt owner (way m h k) = none) _ (show oAt owner (way m h (off m (SetTable.bits h % (m + 1)) (SetTable.bits h) n)) = none by rw [hw]; exact hf)
  refine ⟨K, free_spec m owner (SetTable.turns m) n _ _ K (by unfold SetTable.turns; omega) k1 (fun k hk => ?_) ?_, k2, k3⟩
  · cases z : oAt owner (nth m (runAt m (SetTable.bits h % (m + 1)) (SetTable.bits h)) k).j with
    | none => exact absurd z (k3 k hk)
    | some _ => rfl
  · show (oAt owner (way m h K)).isNone = true
    rw [k2]
    rfl
theorem own_step {m : Nat} (hm : MaskB m) {done : List Int} {owner : Array (Option Nat)} (W : Own m done owner) (hl : done.length ≤ m) (h : Int) :
    ∃ j, SetTable.layClean.free m owner (SetTable.turns m) (SetTable.bits h % (m + 1)) (SetTable.bits h) = some j ∧ Own m (done ++ [h]) (owner.setIfInBounds j (some done.length)) := by
  obtain ⟨ps, hps, hin⟩ := W.ps
  obtain ⟨j0, h0, hn0⟩ := st_missing ps (m + 1) (by omega)
  have hj0 : oAt owner j0 = none := Classical.byContradiction fun z => hn0 (hin j0 (by omega) z)
  obtain ⟨K, e1, e2, e3⟩ := free_at hm owner h (show j0 ≤ m by omega) hj0
  have hjm := way_in m h K
  refine ⟨way m h K, e1, ?_⟩
  generalize hw : way m h K = x at *
  have hself : oAt (owner.setIfInBounds x (some done.length)) x = some done.length := oAt_set_self _ (by rw [W.sz]; omega)
  have keep : ∀ {i : Nat}, i ≠ x → oAt (owner.setIfInBounds x (some done.length)) i = oAt owner i := fun c => oAt_set_ne _ c
  have mono : ∀ {i : Nat}, oAt owner i ≠ none → oAt (owner.setIfInBounds x (some done.length)) i ≠ none := fun {i} hi => by
    by_cases c : i = x
    · rw [c, hself]; exact nofun
    · rw [keep c]; exact hi
  refine ⟨by rw [Array.size_setIfInBounds]; exact W.sz, fun j k hj e => ?_, fun k hk => ?_, ⟨x :: ps, by simp [hps], fun j hj e => ?_⟩⟩
  · by_cases c : j = x
    · rw [c, hself] at e
      cases e
      exact ⟨h, K, by simp, by rw [hw, c], fun k' hk' => mono (e3 k' hk')⟩
    · rw [keep c] at e
      obtain ⟨h', K', a1, a2, a3⟩ := W.at_ j k hj e
      refine ⟨h', K', ?_, a2, fun k' hk' => mono (a3 k' hk')⟩
      rw [List.getElem?_append_left (List.getElem?_eq_some_iff.mp a1).1]
      exact a1
  · rw [List.length_append, List.length_singleton] at hk
    by_cases c : k < done.length
    · obtain ⟨j, hj, e⟩ := W.all k c
      exact ⟨j, hj, by rw [keep (fun z => by rw [z, e2] at e; cases e)]; exact e⟩
    · rw [show k = done.length by omega]
      exact ⟨x, hjm, hself⟩
  · by_cases c : j = x
    · rw [c]; exact List.mem_cons_self
    · rw [keep c] at e
      exact List.mem_cons_of_mem _ (hin j hj e)
theorem own_all {m : Nat} (hm : MaskB m) : ∀ (rest done : List Int) (owner : Array (Option Nat)), Own m done owner → done.length + rest.length ≤ m →
    ∃ owner', rest.foldl (stepF m) (some (owner, done.length)) = some (owner', (done ++ rest).length) ∧ Own m (done ++ rest) owner'
  | [], done, owner, W, _ => ⟨owner, by simp, by simpa using W⟩
  | h :: rest, done, owner, W, hl => by
    rw [List.length_cons] at hl
    obtain ⟨j, e, W'⟩ := own_step hm W (by omega) h
    obtain ⟨owner', f, W2⟩ := own_all hm rest (done ++ [h]) _ W' (by simp; omega)
    refine ⟨owner', ?_, by simpa using W2⟩
    rw [List.foldl_cons, stepF_some e]
    simpa using f
theorem clean_ok {m : Nat} (hm : MaskB m) {hs : Array Int} (hn : hs.size ≤ m) : ∃ owner, SetTable.layClean m hs = some owner ∧ Own m hs.toList owner := by
  obtain ⟨owner, f, W⟩ := own_all hm hs.toList [] _ (Own.init m) (by simpa using hn)
  refine ⟨owner, ?_, by simpa using W⟩
  rw [layClean_eq]
  have f' : hs.toList.foldl (stepF m) (some (Array.replicate (m + 1) none, 0)) = some (owner, ([] ++ hs.toList).length) := f
  rw [f']
  rfl
theorem relaid_as (t : SetTable) {hs : Array Int} {wanted M : Nat} (hw : SetTable.sizeAbove wanted - 1 = M) (hM : MaskB M) (hn : hs.size ≤ M) :
    ∃ t' order, t.relaid hs wanted = some (t', order) ∧ order.toList.Perm (List.range hs.size) ∧ Tb t' (order.toList.map fun i => hs.getD i 0) ∧ t'.mask = M ∧ t'.led = t.led ∧ t'.plain = t.plain := by
  obtain ⟨owner, e, W⟩ := clean_ok hM hn
  have hz : hs.toList.length = hs.size := rfl
  obtain ⟨r1, r2⟩ : L2.Ris ((liveOf M owner).map (·.1)) ∧ ∀ x ∈ (liveOf M owner).map (·.1), x ∈ List.range (M + 1) := ris_live (fun j => owner.getD j none) (List.range (M + 1)) (by
    unfold L2.Ris
    first | exact List.pairwise_lt_range | exact List.pairwise_lt_range _)
  have nd : ((liveOf M owner).map (·.1)).Nodup := List.Pairwise.imp (fun h => Nat.ne_of_lt h) r1
  have hlen : (liveOf M owner).length = hs.size := by
    obtain ⟨ps, p1, p2⟩ := W.ps
    have a := nat_nodup_len _ ps nd fun x hx => by
      obtain ⟨⟨y, k⟩, hq, rfl⟩ := List.mem_map.mp hx
      obtain ⟨b1, b2⟩ := (mem_live W.sz).1 hq
      exact p2 y b1 (by rw [b2]; exact nofun)
    have b := nat_nodup_len (List.range hs.size) ((liveOf M owner).map (·.2)) List.nodup_range fun k hk => by
      obtain ⟨j, b1, b2⟩ := W.all k (List.mem_range.mp hk)
      exact List.mem_map.mpr ⟨(j, k), (mem_live W.sz).2 ⟨b1, b2⟩, rfl⟩
    rw [List.length_map, p1] at a
    rw [List.length_map, List.length_range] at b
    omega
  refine ⟨tabOf t M owner, ((liveOf M owner).map (·.2)).toArray, by rw [relaid_eq, hw, e]; rfl, perm_range hs.size _ (by show ((liveOf M owner).map (·.2)).length = _; rw [List.length_map]; exact hlen) fun k hk => ?_, ⟨r1, rfl, ?_, hM, fun x hx => ?_, fun i h j h1 h2 => ?_⟩, rfl, rfl, rfl⟩
  · obtain ⟨j, b1, b2⟩ := W.all k hk
    exact List.mem_map.mpr ⟨(j, k), (mem_live W.sz).2 ⟨b1, b2⟩, rfl⟩
  · show ((liveOf M owner).map (·.1)).length = (((liveOf M owner).map (·.2)).map fun i => hs.getD i 0).length
    simp
  · have := List.mem_range.mp (r2 x hx)
    show x ≤ M
    omega
  · have h1' : (((liveOf M owner).map (·.2)).map fun i => hs.getD i 0)[i]? = some h := h1
    have h2' : ((liveOf M owner).map (·.1))[i]? = some j := h2
    rw [List.getElem?_map, List.getElem?_map] at h1'
    rw [List.getElem?_map] at h2'
    cases hq : (liveOf M owner)[i]? with
    | none => rw [hq] at h2'; cases h2'
    | some q =>
      obtain ⟨y, k⟩ := q
      rw [hq] at h1' h2'
      cases h2'
      have eh : hs.getD k 0 = h := Option.some.inj h1'
      obtain ⟨b1, b2⟩ := (mem_live W.sz).1 (List.mem_of_getElem? hq)
      obtain ⟨h0, K, a1, a2, a3⟩ := W.at_ y k b1 b2
      have e0 : hs.getD k 0 = h0 := by
        rw [Array.getD_eq_getD_getElem?, ← Array.getElem?_toList, a1]
        rfl
      rw [e0] at eh
      subst eh
      refine ⟨K, a2, fun k' hk' => ?_⟩
      show way M h0 k' ∈ (liveOf M owner).map (·.1)
      cases z : oAt owner (way M h0 k') with
      | none => exact absurd z (a3 k' hk')
      | some k2 => exact List.mem_map.mpr ⟨(way M h0 k', k2), (mem_live W.sz).2 ⟨way_in M h0 k', z⟩, rfl⟩
theorem size_5 : SetTable.sizeAbove (SetTable.grown 5) = 32 := by decide +kernel
theorem size_19 : SetTable.sizeAbove (SetTable.grown 19) = 128 := by decide +kernel
theorem size_77 : SetTable.sizeAbove (SetTable.grown 77) = 512 := by decide +kernel
theorem size_307 : SetTable.sizeAbove (SetTable.grown 307) = 2048 := by decide +kernel
theorem size_1229 : SetTable.sizeAbove (SetTable.grown 1229) = 8192 := by decide +kernel
end BS
end
section
set_option Elab.async false
set_option linter.all false
set_option maxRecDepth 100000
set_option maxHeartbeats 4000000
namespace BS
open PySem PySem.Spec L2 PyProof.Rows
section
variable {P : Program} {w : World} {A : Around} {E : Value → Shared → Prop} {s : Shared}
structure SetB (P : Program) (w : World) (h : Heap) (a : Addr) (L : List (Addr × List Int)) (es : Array (Int × Value)) (ep : Nat) (t : SetTable) : Prop where
  ob : ∃ o, h.get? a = some o ∧ o.ExactSet ∧ o.data = .set es ep t
  rows : es.toList = rowsOf P w L
  tab : Tb t (L.map fun p => thash P w p.2)
  nd : (L.map (·.2)).Nodup
  tup : ∀ p ∈ L, IsT P w h p.2 p.1
  plain : t.plain = true
  led : w.params.followText "set-order" = true ∨ t.led = true
  room : L.length * 5 < t.mask * 3
variable {a : Addr} {L : List (Addr × List Int)} {es : Array (Int × Value)} {ep : Nat} {t : SetTable}
theorem rows_len {es : Array (Int × Value)} (h : es.toList = rowsOf P w L) : es.size = L.length := by
  have := congrArg List.length h
  simpa [rowsOf] using this
theorem fits_of {t : SetTable} {n : Nat} (h1 : t.place.toList.length = n) (h2 : t.dummies = #[]) (h3 : n ≤ t.mask) : t.fits n = true := by
  unfold SetTable.fits SetTable.fill
  rw [h2, Bool.and_eq_true, beq_iff_eq, decide_eq_true_eq, ← Array.length_toList, h1]
  exact ⟨rfl, h3⟩
theorem SetB.sz (R : SetB P w s.heap a L es ep t) : t.place.toList.length = L.length := by
  rw [R.tab.sz, List.length_map]
theorem SetB.fits (R : SetB P w s.heap a L es ep t) : t.fits es.size = true := by
  have := R.room
  exact fits_of (by rw [R.sz, rows_len R.rows]) R.tab.dm (by rw [rows_len R.rows]; omega)
theorem SetB.entry (R : SetB P w s.heap a L es ep t) {i : Nat} {p : Addr × List Int} (h : L[i]? = some p) : es[i]? = some (thash P w p.2, Value.ref p.1) := by
  rw [← Array.getElem?_toList, R.rows]
  unfold rowsOf
  rw [List.getElem?_map, h]
  rfl
theorem SetB.gw (R : SetB P w s.heap a L es ep t) : ¬ t.gaveWay = true := by
  unfold SetTable.gaveWay
  rw [odd R.tab.mok]
  decide
theorem nth_dummy (m : Nat) : ∀ (n : Nat) (p : SetTable.Probe), p.dummy = none → (nth m p n).dummy = none
  | 0, _, h => h
  | n + 1, p, h => nth_dummy m n (adv m p) (by unfold adv; split <;> exact h)
/-- the way's c-th state -/
abbrev stt (m : Nat) (h : Int) (c : Nat) : SetTable.Probe := nth m (runAt m (SetTable.bits h % (m + 1)) (SetTable.bits h)) c
theorem stt_add (m : Nat) (h : Int) (c q : Nat) : nth m (stt m h c) q = stt m h (c + q) := (nth_add m c _ q).symm
theorem stt_j (m : Nat) (h : Int) (c q : Nat) : (nth m (stt m h c) q).j = way m h (c + q) := congrArg SetTable.Probe.j (stt_add m h c q)
/-- the search, from the c-th state on -/
theorem seek (R : SetB P w s.heap a L es ep t) {x : Addr} {k : List Int} (hx : IsT P w s.heap k x) (hu : A.units < cLine) {K : Nat} (hKf : K < 10 * SetTable.turns t.mask)
    (hK : way t.mask (thash P w k) K ∉ t.place.toList) (hKb : ∀ c, c < K → way t.mask (thash P w k) c ∈ t.place.toList) {Q : SetFound → Shared → Prop}
    (hin : k ∈ L.map (·.2) → Q (.there none) s) (hout : k ∉ L.map (·.2) → Q (.free (way t.mask (thash P w k) K) false) s) :
    ∀ (f c : Nat) (stand : Option SetTable.Probe), stand.getD (t.probeStart (thash P w k)) = stt t.mask (thash P w k) c → c ≤ K → K - c < f →
      (∀ (i : Nat) p, L[i]? = some p → p.2 = k → ∃ c', c ≤ c' ∧ c' < K ∧ t.place.toList[i]? = some (way t.mask (thash P w k) c')) →
      wpAny (model P w) A (setSearchFrom a (.ref x) (thash P w k) true f stand) Q E s := by
  intro f
  induction f with
  | zero => intro c stand _ _ hf; exact absurd hf (Nat.not_lt_zero _)
  | succ f ih =>
  intro c stand hst hc hf hre
  obtain ⟨o, ho, hex, hd⟩ := R.ob
  rw [setSearchFrom_succ]
  refine wpAny_bind (wpAny_setState_of ho hd R.fits ?_)
  dsimp only
  refine wp_if_neg R.gw ?_
  try refine wpAny_bind (wpAny_pure ?_)
  have ha : ∀ (i : Nat) p, L[i]? = some p → (fun i => (es[i]?.map (·.1)).getD 0) i = thash P w p.2 := fun i p hp => by
    show (es[i]?.map (·.1)).getD 0 = _
    rw [R.entry hp]
    rfl
  rcases go_spec t R.tab.ris R.tab.dm (fun i => (es[i]?.map (·.1)).getD 0) (thash P w k) (10 * SetTable.turns t.mask) (K - c) _ (nth_dummy t.mask c _ rfl) (by omega)
      (fun q hq => by rw [stt_j]; exact hKb (c + q) (by omega)) (by rw [stt_j, show c + (K - c) = K by omega]; exact hK) with ⟨q, i, hq, hi, hh, hno, hpr⟩ | ⟨hno, hpr⟩
  · have hpr' : t.probe (fun i => (es[i]?.map (·.1)).getD 0) (thash P w k) (stand.getD (t.probeStart (thash P w k))) = some (.candidate (way t.mask (thash P w k) (c + q)) i (stt t.mask (thash P w k) (c + (q + 1)))) := by
      rw [hst, ← stt_j, ← stt_add]
      exact hpr
    rw [hpr']
    dsimp only
    rw [stt_j] at hi
    have hil : i < L.length := by
      rw [← R.sz]
      exact (List.getElem?_eq_some_iff.mp hi).1
    have hp : L[i]? = some L[i] := List.getElem?_eq_getElem hil
    generalize hpe : L[i] = p at hp
    have hmem : p ∈ L := List.mem_of_getElem? hp
    have rest : wpAny (model P w) A (searchRest a (.ref x) (thash P w k) true f es t (way t.mask (thash P w k) (c + q)) i (stt t.mask (thash P w k) (c + (q + 1)))) Q E s := by
      unfold searchRest
      rw [R.entry hp]
      dsimp only
      refine wpAny_bind (wpAny_holding (wpAny_eqBool_tuple hu (R.tup p hmem) hx ?_))
      refine wpAny_bind (wpAny_setState_of ho hd R.fits ?_)
      dsimp only
      by_cases hkk : p.2 = k
      · refine wp_if_pos (by simp [hkk]) ?_
        exact wpAny_pure (hin (List.mem_map.mpr ⟨p, hmem, hkk⟩))
      · refine wp_if_neg (by simp [hkk]) ?_
        try refine wpAny_bind (wpAny_pure ?_)
        rw [sameMem]
        dsimp only
        have hsl : t.slot (way t.mask (thash P w k) (c + q)) = .live i := slot_live R.tab.ris hi
        simp only [if_true, hsl, R.entry hp]
        refine wpAny_bind (wpAny_isSame_ref_self (wpAny_bind (wpAny_pure ?_)))
        simp only [if_true]
        refine wp_if_neg (by simp [hkk]) ?_
        refine ih (c + (q + 1)) _ rfl (by omega) (by omega) fun i0 p0 h0 hk0 => ?_
        obtain ⟨c', a1, a2, a3⟩ := hre i0 p0 h0 hk0
        refine ⟨c', Classical.byContradiction fun z => ?_, a2, a3⟩
        by_cases y : c' = c + q
        · subst y
          have s0 := slot_live R.tab.ris a3
          rw [hsl] at s0
          injection s0 with s0
          subst s0
          rw [hp] at h0
          cases h0
          exact hkk hk0
        · refine hno (c' - c) i0 (by omega) (by rw [stt_j, show c + (c' - c) = c' by omega]; exact a3) ?_
          exact (ha i0 p0 h0).trans (congrArg (thash P w) hk0)
    by_cases hl : t.led = true
    · refine wp_if_neg (by simp [hl]) ?_
      try refine wpAny_bind (wpAny_pure ?_)
      exact rest
    · refine wp_if_pos (by simp [hl]) ?_
      refine wpAny_bind (seen_tup hx (fun y hy => ?_) ?_)
      · obtain ⟨e, he, ee⟩ := List.mem_map.mp hy
        have he1 : e ∈ es ∧ e.1 = thash P w k := by simpa using he
        have he2 : e ∈ es.toList := by simpa using he1.1
        rw [R.rows] at he2
        obtain ⟨p2, hp2, e2⟩ := List.mem_map.mp he2
        exact ⟨p2.2, p2.1, by rw [← ee, ← e2], R.tup p2 hp2⟩
      · refine wp_if_neg (by decide) ?_
        try refine wpAny_bind (wpAny_pure ?_)
        exact rest
  · have hpr' : t.probe (fun i => (es[i]?.map (·.1)).getD 0) (thash P w k) (stand.getD (t.probeStart (thash P w k))) = some (.empty (way t.mask (thash P w k) K) none) := by
      have e2 : way t.mask (thash P w k) K = (nth t.mask (stt t.mask (thash P w k) c) (K - c)).j := by rw [stt_j, show c + (K - c) = K by omega]
      rw [hst, e2]
      exact hpr
    rw [hpr']
    dsimp only
    refine wpAny_pure (hout fun hm => ?_)
    obtain ⟨p0, h0, hk0⟩ := List.mem_map.mp hm
    obtain ⟨i0, h00⟩ := List.mem_iff_getElem?.mp h0
    obtain ⟨c', a1, a2, a3⟩ := hre i0 p0 h00 hk0
    exact hno (c' - c) i0 (by omega) (by rw [stt_j, show c + (c' - c) = c' by omega]; exact a3) ((ha i0 p0 h00).trans (congrArg (thash P w) hk0))
theorem seek_add (R : SetB P w s.heap a L es ep t) {x : Addr} {k : List Int} (hx : IsT P w s.heap k x) (hu : A.units < cLine) {Q : SetFound → Shared → Prop}
    (hin : k ∈ L.map (·.2) → Q (.there none) s)
    (hout : ∀ K, k ∉ L.map (·.2) → way t.mask (thash P w k) K ∉ t.place.toList → (∀ c, c < K → way t.mask (thash P w k) c ∈ t.place.toList) → Q (.free (way t.mask (thash P w k) K) false) s) :
    wpAny (model P w) A (setSearch a (.ref x) (thash P w k) true) Q E s := by
  have hroom := R.room
  obtain ⟨K, hKf, hK, hKb⟩ := R.tab.first (by rw [List.length_map]; omega) (thash P w k)
  have hbig := turns_le R.tab.mok
  unfold setSearch
  refine seek R hx hu hKf hK hKb hin (fun hn => hout K hn hK hKb) 100000 0 none rfl (Nat.zero_le _) (by omega) fun i p hp hk => ?_
  have hi : (L.map fun p => thash P w p.2)[i]? = some (thash P w k) := by rw [List.getElem?_map, hp, ← hk]; rfl
  have hil : i < t.place.toList.length := by
    rw [R.sz]
    exact (List.getElem?_eq_some_iff.mp hp).1
  have hj := List.getElem?_eq_getElem hil
  obtain ⟨c, hc, e⟩ := R.tab.before hK hi hj
  exact ⟨c, Nat.zero_le _, hc, by rw [hj, e]⟩
end
end BS
end
section
set_option Elab.async false
set_option linter.all false
set_option maxRecDepth 100000
set_option maxHeartbeats 4000000
namespace BS
open PySem PySem.Spec L2 PyProof.Rows
section
variable {P : Program} {w : World} {A : Around} {E : Value → Shared → Prop} {s : Shared} {a : Addr} {L : List (Addr × List Int)} {es : Array (Int × Value)} {ep : Nat} {t : SetTable}
theorem lay {o : Obj} (ho : s.heap.get? a = some o) (hex : o.ExactSet) (hd : o.data = .set es ep t) (hrows : es.toList = rowsOf P w L) (T0 : Tb t (L.map fun p => thash P w p.2)) (hfl : L.length ≤ t.mask)
    (nd : (L.map (·.2)).Nodup) (tup : ∀ p ∈ L, IsT P w s.heap p.2 p.1) (pl : t.plain = true) (ld : w.params.followText "set-order" = true ∨ t.led = true) {wanted M : Nat}
    (hw : SetTable.sizeAbove wanted - 1 = M) (hM : MaskB M) (hw2 : SetTable.sizeAbove wanted ≤ 8192) (hn : L.length * 5 < M * 3) {Q : Unit → Shared → Prop}
    (hQ : ∀ h' L' es' ep' t', Heap.SameBut a s.heap h' → SetB P w h' a L' es' ep' t' → L'.Perm L → Q () { s with heap := h' }) : wpAny (model P w) A (setRelay a wanted) Q E s := by
  have hsl := rows_len hrows
  have hfits : t.fits es.size = true := fits_of (by rw [T0.sz, List.length_map, hsl]) T0.dm (by rw [hsl]; exact hfl)
  obtain ⟨t', order, e, hp, T, em, el, epl⟩ := relaid_as t (hs := es.map (·.1)) (wanted := wanted) hw hM (by rw [Array.size_map, hsl]; omega)
  rw [Array.size_map, hsl] at hp
  obtain ⟨L2, r1, r2, r3⟩ := order_rows L es order hrows hp
  rw [← r3] at T
  have hs2 : (order.filterMap (es[·]?)).size = es.size := by rw [rows_len r1, r2.length_eq, hsl]
  have hM2 : L.length < 8192 := by
    rcases hM with rfl | rfl | rfl | rfl | rfl | rfl <;> omega
  rw [setRelay_eq]
  refine wpAny_bind (wpAny_setState_of ho hd hfits ?_)
  dsimp only
  refine wp_if_neg (by rw [sizeLine_eq]; omega) ?_
  try refine wpAny_bind (wpAny_pure ?_)
  rw [e]
  dsimp only
  refine wpAny_bind ?_
  refine wp_if_neg (by rw [hs2]; simp) ?_
  try refine wpAny_bind (wpAny_pure ?_)
  refine wpAny_pure ?_
  dsimp only
  refine wpAny_storeSet_of ho hd ?_ (by rw [hs2, hsl, sizeLine_eq]; omega)
  have sb : Heap.SameBut a s.heap (s.heap.update a (Obj.putSet (order.filterMap (es[·]?)) t')) := Heap.SameBut.update ..
  exact hQ _ L2 (order.filterMap (es[·]?)) (ep + 1) t' sb ⟨⟨_, store_at ho hd, ⟨hex.1, hex.2.1, hex.2.2⟩, rfl⟩, r1, T, (r2.map (·.2)).nodup_iff.mpr nd, fun p hpm => isT_same (tup p (r2.mem_iff.mp hpm)) ho hd sb, by rw [epl]; exact pl, by rw [el]; exact ld, by rw [r2.length_eq, em]; exact hn⟩ r2
/-- when a table is too full, the next is -/
theorem next_mask {m n : Nat} (hm : MaskB m) (hroom : n * 5 < m * 3) (hfull : (n + 1) * 5 ≥ m * 3) (hn : n < 4000) :
    ∃ M, SetTable.sizeAbove (SetTable.grown (n + 1)) - 1 = M ∧ MaskB M ∧ SetTable.sizeAbove (SetTable.grown (n + 1)) ≤ 8192 ∧ (n + 1) * 5 < M * 3 := by
  have key : ∀ (c S : Nat), n + 1 = c → SetTable.sizeAbove (SetTable.grown c) = S → MaskB (S - 1) → S ≤ 8192 → c * 5 < (S - 1) * 3 → ∃ M, SetTable.sizeAbove (SetTable.grown (n + 1)) - 1 = M ∧ MaskB M ∧ SetTable.sizeAbove (SetTable.grown (n + 1)) ≤ 8192 ∧ (n + 1) * 5 < M * 3 := by
    intro c S h1 h2 h3 h4 h5
    subst h1
    exact ⟨S - 1, by rw [h2], h3, by rw [h2]; exact h4, h5⟩
  rcases hm with rfl | rfl | rfl | rfl | rfl | rfl
  · exact key 5 32 (by omega) size_5 (.inr (.inl rfl)) (by decide) (by decide)
  · exact key 19 128 (by omega) size_19 (.inr (.inr (.inl rfl))) (by decide) (by decide)
  · exact key 77 512 (by omega) size_77 (.inr (.inr (.inr (.inl rfl)))) (by decide) (by decide)
  · exact key 307 2048 (by omega) size_307 (.inr (.inr (.inr (.inr (.inl rfl))))) (by decide) (by decide)
  · exact key 1229 8192 (by omega) size_1229 (.inr (.inr (.inr (.inr (.inr rfl))))) (by decide) (by decide)
  · omega
theorem add (R : SetB P w s.heap a L es ep t) {x : Addr} {k : List Int} (hx : IsT P w s.heap k x) (hu : A.units < cLine) (hfew : L.length < 4000) {Q : Bool → Shared → Prop}
    (hQ : ∀ b h' L' es' ep' t', Heap.SameBut a s.heap h' → SetB P w h' a L' es' ep' t' → (k ∈ L.map (·.2) → L' = L) → (k ∉ L.map (·.2) → L'.Perm ((x, k) :: L)) → Q b { s with heap := h' }) :
    wpAny (model P w) A (setAddHashed a (.ref x) (thash P w k)) Q E s := by
  obtain ⟨o, ho, hex, hd⟩ := R.ob
  have hsl := rows_len R.rows
  have hroom := R.room
  unfold setAddHashed
  refine wpAny_holding ?_
  rw [show (100000 : Nat) = 99999 + 1 from rfl, setAddHashedIn_succ]
  refine wpAny_bind (wpAny_setState_of ho hd R.fits ?_)
  dsimp only
  refine wp_if_neg (by simp [byScan, Value.scannable]) ?_
  try refine wpAny_bind (wpAny_pure ?_)
  refine wpAny_bind (seek_add R hx hu (fun hm => ?_) fun K hm hK hb => ?_)
  · dsimp only
    exact wpAny_pure (hQ false s.heap L es ep t (Heap.SameBut.refl a s.heap) R (fun _ => rfl) fun z => absurd hm z)
  · dsimp only
    refine wpAny_bind (wpAny_setState_of ho hd R.fits ?_)
    dsimp only
    obtain ⟨q2, q3, q9⟩ := R.tab.put hK hb
    have q1 : (t.put (way t.mask (thash P w k) K)).2 = SetTable.below t.place (way t.mask (thash P w k) K) := rfl
    have q4 : (t.put (way t.mask (thash P w k) K)).1.mask = t.mask := rfl
    have q5 : (t.put (way t.mask (thash P w k) K)).1.led = t.led := rfl
    have hp1 : (t.put (way t.mask (thash P w k) K)).1.plain = true := R.plain
    generalize hpt : t.put (way t.mask (thash P w k) K) = pt at q1 q3 q4 q5 q9 hp1 ⊢
    obtain ⟨t1, p⟩ := pt
    dsimp only at q1 q3 q4 q5 q9 hp1 ⊢
    subst q1
    first
      | (refine wpAny_bind ?_; refine wp_if_pos hp1 ?_; refine hashBy_tup hx ?_)
      | refine wp_if_pos hp1 (wpAny_bind (hashBy_tup hx ?_))
    simp only [if_true]
    have hin : (SetTable.insertAt es (SetTable.below t.place (way t.mask (thash P w k) K)) (thash P w k, Value.ref x)).toList = rowsOf P w (L.take (SetTable.below t.place (way t.mask (thash P w k) K)) ++ (x, k) :: L.drop (SetTable.below t.place (way t.mask (thash P w k) K))) := by
      rw [SetTable.toList_insertAt, rows_put, R.rows]
    generalize SetTable.below t.place (way t.mask (thash P w k) K) = p at q2 q3 hin ⊢
    have pm := put_perm L p (x, k)
    have hlen : (L.take p ++ (x, k) :: L.drop p).length = L.length + 1 := pm.length_eq
    have hhs : (L.take p ++ (x, k) :: L.drop p).map (fun p => thash P w p.2) = (L.map fun p => thash P w p.2).take p ++ thash P w k :: (L.map fun p => thash P w p.2).drop p := by
      rw [List.map_append, List.map_cons, List.map_take, List.map_drop]
    rw [← hhs] at q3
    have nd1 : ((L.take p ++ (x, k) :: L.drop p).map (·.2)).Nodup := by
      refine (pm.map (·.2)).nodup_iff.mpr ?_
      rw [List.map_cons]
      exact List.nodup_cons.mpr ⟨hm, R.nd⟩
    have hes := rows_len hin
    rw [hlen] at hes
    generalize SetTable.insertAt es p (thash P w k, Value.ref x) = es1 at hin hes ⊢
    generalize L.take p ++ (x, k) :: L.drop p = L1 at pm hlen q3 nd1 hin
    refine wpAny_bind (wpAny_storeSet_of ho hd ?_ (by rw [hes, sizeLine_eq]; omega))
    have sb : Heap.SameBut a s.heap (s.heap.update a (Obj.putSet es1 t1)) := Heap.SameBut.update ..
    have ho1 := store_at (es' := es1) (t' := t1) ho hd
    generalize s.heap.update a (Obj.putSet es1 t1) = h1 at sb ho1 ⊢
    have tup1 : ∀ p ∈ L1, IsT P w h1 p.2 p.1 := fun p hp => by
      rcases List.mem_cons.mp (pm.mem_iff.mp hp) with e | hp
      · rw [e]; exact isT_same hx ho hd sb
      · exact isT_same (R.tup p hp) ho hd sb
    have ld1 : w.params.followText "set-order" = true ∨ t1.led = true := by rw [q5]; exact R.led
    rw [List.length_map] at q9
    by_cases hf : t1.tooFull = true
    · first
        | (refine wpAny_bind ?_; refine wp_if_pos (by simp [hf]) ?_)
        | (refine wp_if_pos (by simp [hf]) ?_; refine wpAny_bind ?_)
      have hfull : (L.length + 1) * 5 ≥ t.mask * 3 := by
        have h := hf
        unfold SetTable.tooFull at h
        rw [decide_eq_true_eq, q9, q4] at h
        exact h
      rw [hsl]
      obtain ⟨M, m1, m2, m3, m4⟩ := next_mask R.tab.mok hroom hfull hfew
      have hmk : 7 ≤ t.mask := by rcases R.tab.mok with e | e | e | e | e | e <;> omega
      refine lay (s := { s with heap := h1 }) ho1 ⟨hex.1, hex.2.1, hex.2.2⟩ rfl hin q3 (by rw [hlen, q4]; omega) nd1 tup1 hp1 ld1 m1 m2 m3 (by rw [hlen]; exact m4) ?_
      intro h2 L2 es2 ep2 t2 sb2 R2 pm2
      exact wpAny_pure (hQ true h2 L2 es2 ep2 t2 (sb.trans sb2) R2 (fun z => absurd z hm) fun _ => pm2.trans pm)
    · first
        | refine wp_if_neg (by simp [hf]) ?_
        | (refine wpAny_bind ?_; refine wp_if_neg (by simp [hf]) ?_; refine wpAny_pure ?_)
      refine wpAny_pure (hQ true h1 L1 es1 (ep + 1) t1 sb ⟨⟨_, ho1, ⟨hex.1, hex.2.1, hex.2.2⟩, rfl⟩, hin, q3, nd1, tup1, hp1, ld1, ?_⟩ (fun z => absurd z hm) fun _ => pm)
      have h := hf
      unfold SetTable.tooFull at h
      rw [decide_eq_true_eq, q9] at h
      rw [hlen]
      omega
end
end BS
end
section
set_option Elab.async false
set_option linter.all false
set_option maxRecDepth 100000
set_option maxHeartbeats 4000000
namespace BS
open PySem PySem.Spec L2 PyProof.Rows
section
variable {P : Program} {w : World} {A : Around} {E : Value → Shared → Prop} {s : Shared}
theorem SetB.keep {h h' : Heap} {a : Addr} {L : List (Addr × List Int)} {es : Array (Int × Value)} {ep : Nat} {t : SetTable} (R : SetB P w h a L es ep t) (ha : ∀ o, h.get? a = some o → h'.get? a = some o) (ht : ∀ p ∈ L, IsT P w h' p.2 p.1) : SetB P w h' a L es ep t := by
  obtain ⟨o, ho, r⟩ := R.ob
  exact { R with ob := ⟨o, ha o ho, r⟩, tup := ht }
theorem fresh {h : Heap} {a : Addr} (ho : h.get? a = some { cls := .type "set", dict := none, data := .set #[] 0 (.fresh 0 0 (!w.params.followText "set-order")) }) : SetB P w h a [] #[] 0 (.fresh 0 0 (!w.params.followText "set-order")) where
  ob := ⟨_, ho, ⟨rfl, rfl, rfl⟩, rfl⟩
  rows := rfl
  tab := ⟨List.Pairwise.nil, rfl, rfl, .inl rfl, (fun x hx => nomatch hx), fun i h j hi => (by simp at hi)⟩
  nd := List.nodup_nil
  tup := fun p hp => nomatch hp
  plain := rfl
  led := by
    show _ ∨ (!w.params.followText "set-order") = true
    cases w.params.followText "set-order"
    · exact .inr rfl
    · exact .inl rfl
  room := show 0 * 5 < 7 * 3 by decide
theorem update {I : Addr} {fp wr : List Addr} {G : Array GenState → Array GenState → Prop} {n : Nat} {Pv : Nat → Value → Prop} {St : Nat → Shared → Prop} {R : Result → Shared → Prop}
    (W : WalksS P w A.in1 I fp wr G n Pv St) (S : Addr) (hSf : S ∉ fp) (ks : List (Addr × List Int)) (hn : n = ks.length) (hfew : ks.length < 4000) (hval : ∀ i v, Pv i v → ∃ p, ks[i]? = some p ∧ v = .ref p.1)
    (h0 : Heap) (hk : ∀ p ∈ ks, IsT P w h0 p.2 p.1) (hS0 : h0.get? S = none) (hw0 : ∀ b ∈ wr, h0.get? b = none) (hu : A.in1.units < cLine) :
    ∀ (k i : Nat) (s : Shared), n - i = k → i ≤ n → St i s → (∀ b o, h0.get? b = some o → s.heap.get? b = some o) → (∃ L es ep t, SetB P w s.heap S L es ep t ∧ Got ks i L) →
      (∀ s' L es ep t, Moved (S :: wr) G s s' → SetB P w s'.heap S L es ep t → Got ks n L → (∀ b o, h0.get? b = some o → s'.heap.get? b = some o) → R (.ok (.ret .none)) s') →
      codeAny (model P w) A (.builtin "set.update.loop" ⟨[.ref S, .ref I], []⟩) R s := by
  have hSw : S ∉ wr := fun h => hSf (W.sub _ h)
  have hsub : ∀ b ∈ wr, b ∈ S :: wr := fun b hb => List.mem_cons_of_mem _ hb
  have keepM : ∀ {s s' : Shared}, Moved wr G s s' → (∀ b o, h0.get? b = some o → s.heap.get? b = some o) → ∀ b o, h0.get? b = some o → s'.heap.get? b = some o := fun hm hkp b o e =>
    hm.heap b o (fun hb => by rw [hw0 b hb] at e; cases e) (hkp b o e)
  intro k
  induction k with
  | zero =>
    intro i s hk' hi hst hkp ⟨L, es, ep, t, hS, g⟩ hR
    have hin : i = n := by omega
    subst hin
    refine codeAny_builtin F.entry_set_update_loop ?_
    rw [Around.under_plainId F.plain_set_update_loop _]
    show wpAny _ A.in1 (pyNext (.ref I) >>= _) _ _ s
    refine wpAny_bind (W.done s _ _ hst fun s' hm => ?_)
    show wpAny _ A.in1 (ret Value.none) _ _ s'
    have hkp' := keepM hm hkp
    exact wpAny_pure (hR s' L es ep t (hm.mono hsub) (hS.keep (fun o e => hm.heap S o hSw e) fun p hp => isT_keep (hk p (List.mem_of_mem_take (g.sub p hp))) hkp') g hkp')
  | succ k ih =>
    intro i s hk' hi hst hkp ⟨L, es, ep, t, hS, g⟩ hR
    have hlt : i < n := by omega
    refine codeAny_builtin F.entry_set_update_loop ?_
    rw [Around.under_plainId F.plain_set_update_loop _]
    show wpAny _ A.in1 (pyNext (.ref I) >>= _) _ _ s
    refine wpAny_bind (W.item i s _ _ hlt hst fun v s' hP hst' hm => ?_)
    obtain ⟨p, hp, rfl⟩ := hval i v hP
    have hkp' := keepM hm hkp
    have hS' : SetB P w s'.heap S L es ep t := hS.keep (fun o e => hm.heap S o hSw e) fun q hq => isT_keep (hk q (List.mem_of_mem_take (g.sub q hq))) hkp'
    have hx : IsT P w s'.heap p.2 p.1 := isT_keep (hk p (List.mem_of_getElem? hp)) hkp'
    show wpAny _ A.in1 (holding [Value.ref p.1] (setAdd S (.ref p.1)) >>= _) _ _ s'
    refine wpAny_bind (wpAny_holding ?_)
    unfold setAdd
    refine wpAny_holding ?_
    refine wpAny_bind (wpAny_pyHash_tuple hu hx ?_)
    refine add (s := { s' with toks := s'.toks + (p.2.length + 1) }) hS' hx hu (by have := g.len; omega) fun b h' L' es' ep' t' hsb hS2 c1 c2 => ?_
    have g' : Got ks (i + 1) L' := by
      rcases Classical.em (p.2 ∈ L.map (·.2)) with c | c
      · rw [c1 c]; exact g.same hp c
      · exact g.more hp (c2 c)
    have hkp2 : ∀ b o, h0.get? b = some o → h'.get? b = some o := fun b o e => (hsb.2 b (fun z => by rw [z, hS0] at e; cases e)).trans (hkp' b o e)
    refine wpAny_pure ⟨plainId_quiet F.plain_set_update_loop _, ih (i + 1) _ (by omega) hlt (W.frame _ s' _ _ hst' (Nat.le_add_right _ _) fun b hb o e => ?_) hkp2 ⟨L', es', ep', t', hS2, g'⟩ fun s'' L2 es2 ep2 t2 hm'' hS'' g'' hkp'' => ?_⟩
    · rw [hsb.2 b (fun h : b = S => hSf (by rw [← h]; exact hb))]; exact e
    · refine hR s'' L2 es2 ep2 t2 (Moved.trans W.gtrans ((hm.mono hsub).then_heap (Nat.le_add_right _ _) fun b o hb e => ?_) hm'') hS'' g'' hkp''
      rw [hsb.2 b (fun h : b = S => hb (by rw [h]; exact List.mem_cons_self))]; exact e
end
end BS
end
section
set_option Elab.async false
set_option linter.all false
set_option maxRecDepth 100000
set_option maxHeartbeats 4000000
namespace BS
open PySem PySem.Spec L2 PyProof.Rows
section
variable {P : Program} {w : World} {A : Around} {E : Value → Shared → Prop} {s : Shared}
/-- set(t), t a tuple of tuples of ints -/
theorem call_set_tuple {l : Addr} {items : Array Value} (ks : List (Addr × List Int)) {Q : Value → Shared → Prop} (hh : A.handled = none) (hl : s.heap.IsTuple l items) (hit : items.toList = ks.map fun p => Value.ref p.1)
    (hk : ∀ p ∈ ks, IsT P w s.heap p.2 p.1) (hfew : ks.length < 4000) (hu : A.units + 3 < cLine)
    (h : ∀ (h' : Heap) (tk : Nat) L es ep t, SetB P w h' s.heap.objs.size L es ep t → Got ks ks.length L → (∀ b o, s.heap.get? b = some o → h'.get? b = some o) → Q (.ref s.heap.objs.size) { s with heap := h', toks := tk }) :
    wpAny (model P w) A (call (.type "set") [.ref l]) Q E s := by
  have hn : items.size = ks.length := by simpa using congrArg List.length hit
  generalize hob : ({ cls := .type "set", dict := none, data := .set #[] 0 (.fresh 0 0 (!w.params.followText "set-order")) } : Obj) = ob
  obtain ⟨c, tl, hmro⟩ := F.called_set.mro
  have f1 := F.called_set.made
  have f2 := F.called_set.sub
  have f3 := F.called_set.notType
  have f4 := F.called_set.canCreate
  have f5 := F.typeCall_set_1 (.ref l)
  have f6 := F.called_set.init.lookup
  have f7 := F.called_set.init.bind (.ref s.heap.objs.size)
  have hat : (s.heap.push ob).get? s.heap.objs.size = some ob := Heap.get?_push_size _ (by rw [← hob]; rfl)
  refine wpAny_call (codeAny_of_tree ?_)
  show wpAny _ _ (callAny (.type "set") _) _ _ _
  refine wpAny_pure ⟨Code.quiet_builtin _ (by decide +kernel), codeAny_builtin F.entry_type_call ?_⟩
  rw [Around.under_plain (weight_type_call_type "set" [.ref l] []) rfl]
  repeat (any_goals (first | assumption | wp_step))
  refine codeAny_mono (code_set_led1 (.ref l) (E := E) (Q₁ := fun obj s₁ => obj = .ref s.heap.objs.size ∧ s₁ = { s with heap := s.heap.push ob }) ⟨rfl, by rw [← hob]⟩) fun r s₁ hr => ?_
  match r, hr with
  | .error _, hr => exact hr
  | .ok (.ret obj), hr =>
    obtain ⟨rfl, rfl⟩ := hr
    have hT : Shared.TypeIs { s with heap := s.heap.push ob } (.ref s.heap.objs.size) "set" := ⟨_, hat, by rw [← hob]⟩
    repeat (any_goals (first | assumption | wp_step))
    refine codeAny_mono (codeAny_call_builtin (R := wants (fun r s₂ => r = .none ∧ ∃ h' tk L es ep t, s₂ = { s with heap := h', toks := tk } ∧ SetB P w h' s.heap.objs.size L es ep t ∧ Got ks ks.length L ∧
        (∀ b o, s.heap.get? b = some o → h'.get? b = some o)) E) F.called_set.init.plain F.entry_set_init (check_set_init_1 hT ?_)) fun r₂ s₂ hr₂ => ?_
    · subst hob
      obtain ⟨⟨oc, od, oda, osl⟩, g1, g2, n, g3⟩ := hl
      cases g2
      cases g3
      have g4 := F.sub_tuple_set
      have g5 := F.sub_tuple_frozenset
      have g6 : (Value.type "tuple" == Value.type "dict") = false := by decide
      have g7 : (s.heap.push { cls := .type "set", dict := none, data := .set #[] 0 (.fresh 0 0 (!w.params.followText "set-order")) }).get? l = some { cls := .type "tuple", dict := od, data := .seq items n, slots := osl } := Heap.get?_push_of_some _ g1
      have g8 : (s.heap.push { cls := .type "set", dict := none, data := .set #[] 0 (.fresh 0 0 (!w.params.followText "set-order")) }).IsTuple l items := ⟨_, g7, rfl, n, rfl⟩
      have hlt : l < s.heap.objs.size := Heap.lt_size g1
      have hsz : (s.heap.push { cls := .type "set", dict := none, data := .set #[] 0 (.fresh 0 0 (!w.params.followText "set-order")) }).objs.size = s.heap.objs.size + 1 := Heap.size_push ..
      have gone : ∀ b, s.heap.objs.size ≤ b → s.heap.get? b = none := fun b hb => by
        cases q : s.heap.get? b with
        | none => rfl
        | some o => exact absurd (Heap.lt_size q) (Nat.not_lt.mpr hb)
      unfold Builtin.«set.__init__» noKeywords Builtin.Frozenset.updateFrom
      generalize hPI : pyIter = PI
      wp_walk
      subst hPI
      refine wpAny_pyIter_tuple g8 ?_
      refine wpAny_bind (wpAny_runValue ?_)
      have k1 : A.in1.in1.in1.handled = none := by simp [hh]
      have k2 : l ≠ (s.heap.push { cls := .type "set", dict := none, data := .set #[] 0 (.fresh 0 0 (!w.params.followText "set-order")) }).objs.size := by rw [hsz]; exact Nat.ne_of_lt (Nat.lt_succ_of_lt hlt)
      have k3 : s.heap.objs.size ∉ [(s.heap.push { cls := .type "set", dict := none, data := .set #[] 0 (.fresh 0 0 (!w.params.followText "set-order")) }).objs.size, l] := by
        rw [hsz]
        simp only [List.mem_cons, List.not_mem_nil, or_false, not_or]
        exact ⟨Nat.ne_of_lt (Nat.lt_succ_self _), Nat.ne_of_gt hlt⟩
      refine update ((Walks.tuple k1 _ l k2 items).toS) s.heap.objs.size k3 ks hn hfew (fun i v hv => ?_) s.heap hk (gone _ (Nat.le_refl _)) (fun b hb => gone b ?_) hu (items.size - 0) 0 _ (by omega) (Nat.zero_le _)
        ⟨⟨_, Heap.get?_push_size _ rfl, rfl, rfl⟩, g8.push _⟩ (fun b o e => Heap.get?_push_of_some _ (Heap.get?_push_of_some _ e)) ⟨[], #[], 0, _, fresh (Heap.get?_push_of_some _ hat), Got.zero ks⟩ fun s' L es ep t hm hS' g' hkp => ?_
      · have q : items.toList[i]? = some v := by rw [Array.getElem?_toList]; exact hv
        rw [hit, List.getElem?_map] at q
        obtain ⟨p, e1, e2⟩ := Option.map_eq_some_iff.mp q
        exact ⟨p, e1, e2.symm⟩
      · rw [List.mem_singleton.mp hb, hsz]
        exact Nat.le_succ _
      · rw [hn] at g'
        obtain ⟨h', _, _, tk', _⟩ := s'
        cases hm.gens
        cases hm.drawn
        cases hm.os
        show wpAny _ _ _ _ _ _
        refine wpAny_pure ?_
        show wpAny _ _ (ret Value.none) _ _ _
        exact wpAny_pure ⟨rfl, h', tk', L, es, ep, t, rfl, hS', g', hkp⟩
    · match r₂, hr₂ with
      | .error _, hr₂ => exact hr₂
      | .ok (.ret _), hr₂ =>
        obtain ⟨rfl, h', tk, L, es, ep, t, rfl, hS', g', hk'⟩ := hr₂
        repeat (any_goals (first | assumption | wp_step))
        exact h _ _ _ _ _ _ hS' g' hk'
/-- set(t), t a list of tuples of ints -/
theorem call_set_list {l : Addr} {items : Array Value} (ks : List (Addr × List Int)) {Q : Value → Shared → Prop} (hh : A.handled = none) (hl : s.heap.IsList l items) (hit : items.toList = ks.map fun p => Value.ref p.1)
    (hk : ∀ p ∈ ks, IsT P w s.heap p.2 p.1) (hfew : ks.length < 4000) (hu : A.units + 3 < cLine)
    (h : ∀ (h' : Heap) (tk : Nat) L es ep t, SetB P w h' s.heap.objs.size L es ep t → Got ks ks.length L → (∀ b o, s.heap.get? b = some o → h'.get? b = some o) → Q (.ref s.heap.objs.size) { s with heap := h', toks := tk }) :
    wpAny (model P w) A (call (.type "set") [.ref l]) Q E s := by
  have hn : items.size = ks.length := by simpa using congrArg List.length hit
  generalize hob : ({ cls := .type "set", dict := none, data := .set #[] 0 (.fresh 0 0 (!w.params.followText "set-order")) } : Obj) = ob
  obtain ⟨c, tl, hmro⟩ := F.called_set.mro
  have f1 := F.called_set.made
  have f2 := F.called_set.sub
  have f3 := F.called_set.notType
  have f4 := F.called_set.canCreate
  have f5 := F.typeCall_set_1 (.ref l)
  have f6 := F.called_set.init.lookup
  have f7 := F.called_set.init.bind (.ref s.heap.objs.size)
  have hat : (s.heap.push ob).get? s.heap.objs.size = some ob := Heap.get?_push_size _ (by rw [← hob]; rfl)
  refine wpAny_call (codeAny_of_tree ?_)
  show wpAny _ _ (callAny (.type "set") _) _ _ _
  refine wpAny_pure ⟨Code.quiet_builtin _ (by decide +kernel), codeAny_builtin F.entry_type_call ?_⟩
  rw [Around.under_plain (weight_type_call_type "set" [.ref l] []) rfl]
  repeat (any_goals (first | assumption | wp_step))
  refine codeAny_mono (code_set_led1 (.ref l) (E := E) (Q₁ := fun obj s₁ => obj = .ref s.heap.objs.size ∧ s₁ = { s with heap := s.heap.push ob }) ⟨rfl, by rw [← hob]⟩) fun r s₁ hr => ?_
  match r, hr with
  | .error _, hr => exact hr
  | .ok (.ret obj), hr =>
    obtain ⟨rfl, rfl⟩ := hr
    have hT : Shared.TypeIs { s with heap := s.heap.push ob } (.ref s.heap.objs.size) "set" := ⟨_, hat, by rw [← hob]⟩
    repeat (any_goals (first | assumption | wp_step))
    refine codeAny_mono (codeAny_call_builtin (R := wants (fun r s₂ => r = .none ∧ ∃ h' tk L es ep t, s₂ = { s with heap := h', toks := tk } ∧ SetB P w h' s.heap.objs.size L es ep t ∧ Got ks ks.length L ∧
        (∀ b o, s.heap.get? b = some o → h'.get? b = some o)) E) F.called_set.init.plain F.entry_set_init (check_set_init_1 hT ?_)) fun r₂ s₂ hr₂ => ?_
    · subst hob
      obtain ⟨⟨oc, od, oda, osl⟩, g1, g2, n, g3⟩ := hl
      cases g2
      cases g3
      have g4 := F.sub_list_set
      have g5 := F.sub_list_frozenset
      have g6 : (Value.type "list" == Value.type "dict") = false := by decide
      have g7 : (s.heap.push { cls := .type "set", dict := none, data := .set #[] 0 (.fresh 0 0 (!w.params.followText "set-order")) }).get? l = some { cls := .type "list", dict := od, data := .seq items n, slots := osl } := Heap.get?_push_of_some _ g1
      have g8 : (s.heap.push { cls := .type "set", dict := none, data := .set #[] 0 (.fresh 0 0 (!w.params.followText "set-order")) }).IsList l items := ⟨_, g7, rfl, n, rfl⟩
      have hlt : l < s.heap.objs.size := Heap.lt_size g1
      have hsz : (s.heap.push { cls := .type "set", dict := none, data := .set #[] 0 (.fresh 0 0 (!w.params.followText "set-order")) }).objs.size = s.heap.objs.size + 1 := Heap.size_push ..
      have gone : ∀ b, s.heap.objs.size ≤ b → s.heap.get? b = none := fun b hb => by
        cases q : s.heap.get? b with
        | none => rfl
        | some o => exact absurd (Heap.lt_size q) (Nat.not_lt.mpr hb)
      unfold Builtin.«set.__init__» noKeywords Builtin.Frozenset.updateFrom
      generalize hPI : pyIter = PI
      wp_walk
      subst hPI
      refine wpAny_pyIter_list g8 ?_
      refine wpAny_bind (wpAny_runValue ?_)
      have k1 : A.in1.in1.in1.handled = none := by simp [hh]
      have k2 : l ≠ (s.heap.push { cls := .type "set", dict := none, data := .set #[] 0 (.fresh 0 0 (!w.params.followText "set-order")) }).objs.size := by rw [hsz]; exact Nat.ne_of_lt (Nat.lt_succ_of_lt hlt)
      have k3 : s.heap.objs.size ∉ [(s.heap.push { cls := .type "set", dict := none, data := .set #[] 0 (.fresh 0 0 (!w.params.followText "set-order")) }).objs.size, l] := by
        rw [hsz]
        simp only [List.mem_cons, List.not_mem_nil, or_false, not_or]
        exact ⟨Nat.ne_of_lt (Nat.lt_succ_self _), Nat.ne_of_gt hlt⟩
      refine update ((Walks.list k1 _ l k2 items).toS) s.heap.objs.size k3 ks hn hfew (fun i v hv => ?_) s.heap hk (gone _ (Nat.le_refl _)) (fun b hb => gone b ?_) hu (items.size - 0) 0 _ (by omega) (Nat.zero_le _)
        ⟨⟨_, Heap.get?_push_size _ rfl, rfl, rfl⟩, g8.push _⟩ (fun b o e => Heap.get?_push_of_some _ (Heap.get?_push_of_some _ e)) ⟨[], #[], 0, _, fresh (Heap.get?_push_of_some _ hat), Got.zero ks⟩ fun s' L es ep t hm hS' g' hkp => ?_
      · have q : items.toList[i]? = some v := by rw [Array.getElem?_toList]; exact hv
        rw [hit, List.getElem?_map] at q
        obtain ⟨p, e1, e2⟩ := Option.map_eq_some_iff.mp q
        exact ⟨p, e1, e2.symm⟩
      · rw [List.mem_singleton.mp hb, hsz]
        exact Nat.le_succ _
      · rw [hn] at g'
        obtain ⟨h', _, _, tk', _⟩ := s'
        cases hm.gens
        cases hm.drawn
        cases hm.os
        show wpAny _ _ _ _ _ _
        refine wpAny_pure ?_
        show wpAny _ _ (ret Value.none) _ _ _
        exact wpAny_pure ⟨rfl, h', tk', L, es, ep, t, rfl, hS', g', hkp⟩
    · match r₂, hr₂ with
      | .error _, hr₂ => exact hr₂
      | .ok (.ret _), hr₂ =>
        obtain ⟨rfl, h', tk, L, es, ep, t, rfl, hS', g', hk'⟩ := hr₂
        repeat (any_goals (first | assumption | wp_step))
        exact h _ _ _ _ _ _ hS' g' hk'
end
end BS
end
section
set_option Elab.async false
set_option linter.all false
set_option maxRecDepth 100000
set_option maxHeartbeats 4000000
namespace BS
open PySem PySem.W PySem.Calls PyProof.Rows PySem.SeqAt
section
variable {prog : Program} {w : World} {A : Around} {E : Value → Shared → Prop} {s : Shared}
theorem call_tuple_lt {Q : Value → Shared → Prop} {l b : Addr} {items items2 : Array Value} {e r : Nat → Bool} (hl : s.heap.IsTuple l items) (hb : s.heap.IsTuple b items2)
    (he : ∀ j (h1 : j < items.size) (h2 : j < items2.size), EqAt A.in1 s items[j] items2[j] (e j)) (hr : ∀ j (h1 : j < items.size) (h2 : j < items2.size), e j = false → RcLt A.in1 s items[j] items2[j] (r j))
    (h : Q (.bool (firstLt e r (decide (items.size < items2.size)) (List.range (min items.size items2.size)))) s) : wpAny (model prog w) A (call (.builtin "tuple.__lt__") [.ref l, .ref b]) Q E s := by
  obtain ⟨⟨cls, dd, data, sl⟩, ho, hc, n, hd⟩ := id hl
  obtain ⟨⟨cls2, dd2, data2, sl2⟩, ho2, hc2, n2, hd2⟩ := id hb
  simp only at hc hd hc2 hd2
  subst hc hd hc2 hd2
  exact call_meets F.slot_tuple_lt ⟨_, ho, rfl⟩ F.entry_tuple_lt (F.args_tuple_lt_2 _ _) (tuple_ltAt l b items items2 n n2 dd dd2 sl sl2 e r) ⟨ho, ho2, he, hr, h⟩
theorem oneLt_tuples {xs ys : List PyData} {a b : Value} {as bs : List Addr} {Q : Bool → Shared → Prop} (ra : Reads s.heap a (.tuple xs) as) (rb : Reads s.heap b (.tuple ys) bs) (h : alike (.tuple xs) (.tuple ys) = true)
    (hu : A.units + min (PyData.tuple xs).depth (PyData.tuple ys).depth < cLine) (hq : Q (dataLt (.tuple xs) (.tuple ys)) s) : wpAny (model prog w) A (oneLt' true a b) Q E s := by
  have hal : alikeAll xs ys = true := by simpa [alike] using h
  cases ra with
  | @tuple l o vs n _ as₁ h1 h2 h3 h4 =>
    cases rb with
    | @tuple l' o' vs' n' _ bs₁ k1 k2 k3 k4 =>
      have n1 : vs.size = xs.length := by simpa using ReadsAll.length _ _ _ h4
      have n2 : vs'.size = ys.length := by simpa using ReadsAll.length _ _ _ k4
      rw [dataLt_tuple, ← firstLt_toks xs ys hal, ← n1, ← n2] at hq
      rw [oneLt'_eq]
      simp only [if_true]
      refine wpAny_bind (wpAny_cRoomFor (room_here hu) ?_)
      refine wpAny_bind (wpAny_callSpecialIfBound?_slot (T := "tuple") ⟨_, h1, h2⟩ F.slot_tuple_lt (call_tuple_lt (e := pairEq xs ys) (r := fun j => dataLt (xs.getD j .none) (ys.getD j .none)) ⟨_, h1, h2, _, h3⟩ ⟨_, k1, k2, _, k3⟩ (fun j j1 j2 => ?_) (fun j j1 j2 hj => ?_) ?_))
      · have := eqAt_alikeAll xs ys A.in1 s vs.toList vs'.toList _ _ h4 k4 hal (room_in hu) j (by simpa using j1) (by simpa using j2)
        simpa using this
      · have := rcLt_alikeAll xs ys A.in1 s vs.toList vs'.toList _ _ h4 k4 hal (room_in hu) j (by simpa using j1) (by simpa using j2) hj
        simpa using this
      · exact wpAny_truthy_bool hq
def fullT : PyData → Bool
  | .tuple [] => false
  | _ => true
theorem fullT_of {xs : List PyData} (h : PyData.tuple xs ≠ .tuple []) : fullT (.tuple xs) = true := by
  cases xs with
  | nil => exact absurd rfl h
  | cons x r => rfl
/-- the first item of each of some tuples, if it has one -/
theorem firsts_tups : ∀ (vs : List Value) (ds : List PyData) {Q : List (Option Value) → Shared → Prop}, EachIs (fun v d => ∃ as, Reads s.heap v d as) vs ds → (∀ d ∈ ds, ∃ xs, d = .tuple xs) → (∀ fs : List (Option Value), EachIs (fun f d => f.isSome = fullT d) fs ds → Q fs s) → wpAny (model prog w) A (vs.mapM firstOfTuple') Q E s
  | [], _, _, .nil, _, h => by rw [List.mapM_nil]; exact wpAny_pure (h [] .nil)
  | v :: vs, d :: ds, Q, .cons ⟨as, r⟩ t, ht, h => by
    obtain ⟨xs, rfl⟩ := ht d List.mem_cons_self
    rw [List.mapM_cons]
    refine wpAny_bind ?_
    rw [kas_first_eq]
    refine wpAny_bind ((looks_reads r).here ?_)
    rw [if_neg (by first | decide | simp [dataType])]
    cases r with
    | @tuple a o ys n _ _ h1 h2 h3 h4 =>
      refine wpAny_bind (listItems_at h1 h3 (wpAny_pure ?_))
      refine wpAny_bind (firsts_tups vs ds t (fun d hd => ht d (List.mem_cons_of_mem _ hd)) fun fs hfs => wpAny_pure (h _ (.cons ?_ hfs)))
      have n1 : ys.size = xs.length := by simpa using ReadsAll.length _ _ _ h4
      cases xs with
      | nil =>
        have : ys[0]? = none := by simp at n1; simp [n1]
        rw [this]
        rfl
      | cons x r =>
        have : 0 < ys.size := by rw [n1]; simp
        rw [Array.getElem?_eq_getElem this]
        rfl
theorem each_at {α β : Type} {R : α → β → Prop} : ∀ {as : List α} {bs : List β}, EachIs R as bs → ∀ b ∈ bs, ∃ a ∈ as, R a b
  | _, _, .nil, b, h => nomatch h
  | _, _, .cons h t, b, hb => by
    rcases List.mem_cons.mp hb with rfl | hb
    · exact ⟨_, List.mem_cons_self, h⟩
    · obtain ⟨a, ha, r⟩ := each_at t b hb
      exact ⟨a, List.mem_cons_of_mem _ ha, r⟩
theorem sortsAt_tuples {vs : List Value} {ds : List PyData} (e : EachIs (fun v d => ∃ as, Reads s.heap v d as) vs ds) (hal : AllAlike ds) (ht : ∀ d ∈ ds, ∃ xs, d = .tuple xs) (hu : ∀ d, d ∈ ds → A.units + d.depth < cLine) : SortsAt prog w A s (dataKind s.heap ds) vs := by
  have room : ∀ {d d' : PyData}, d ∈ ds → A.units + min d.depth d'.depth < cLine := fun {d d'} hd => Nat.lt_of_le_of_lt (Nat.add_le_add_left (Nat.min_le_left _ _) _) (hu d hd)
  by_cases hne : ∀ d ∈ ds, ∃ x r, d = .tuple (x :: r)
  · exact SortsAt.data e hal (.inl hne) hu
  have gen : H.LtAt prog w A s (dataKind s.heap ds) general' := by
    intro E x y a b Q ha hb hq
    obtain ⟨d, as, hd, ra, rfl⟩ := dataKind_inv ha
    obtain ⟨d', as', hd', rb, rfl⟩ := dataKind_inv hb
    obtain ⟨xs, rfl⟩ := ht d hd
    exact oneLt_alike (f := false) (fun h => nomatch h) ra rb (hal _ hd d' hd') (fun h => nomatch h) (room hd) hq
  have one : H.LtAt prog w A s (dataKind s.heap ds) oneType' := by
    intro E x y a b Q ha hb hq
    obtain ⟨d, as, hd, ra, rfl⟩ := dataKind_inv ha
    obtain ⟨d', as', hd', rb, rfl⟩ := dataKind_inv hb
    obtain ⟨xs, rfl⟩ := ht d hd
    obtain ⟨ys, rfl⟩ := ht d' hd'
    rw [keyLt'_oneType]
    exact oneLt_tuples ra rb (hal _ hd _ hd') (room hd) hq
  refine ⟨fun v hv => ?_, ?_⟩
  · obtain ⟨d, hd, as, r⟩ := e.left v hv
    exact ⟨_, dataKind_some hal hd r⟩
  · obtain ⟨d1, hd1, hd2⟩ : ∃ d ∈ ds, d = .tuple [] := by
      refine Classical.byContradiction fun hno => hne fun d hd => ?_
      obtain ⟨xs, rfl⟩ := ht d hd
      cases xs with
      | nil => exact absurd ⟨_, hd, rfl⟩ hno
      | cons x r => exact ⟨x, r, rfl⟩
    cases ds with
    | nil => cases hd1
    | cons d₀ ds₀ =>
      cases vs with
      | nil => cases e
      | cons v₀ vs₀ =>
        have notall : ∀ fs : List (Option Value), EachIs (fun f d => f.isSome = fullT d) fs (d₀ :: ds₀) → (fs.toArray.all fun x => x.isSome) = false := by
          intro fs hfs
          obtain ⟨f, hf, hfd⟩ := each_at hfs d1 hd1
          rw [hd2] at hfd
          simp only [List.all_toArray]
          rw [List.all_eq_false]
          exact ⟨f, hf, by rw [hfd]; simp [fullT]⟩
        by_cases h0 : d₀ = .tuple []
        · refine ⟨oneType', one, fun h2 E Q hq => ?_⟩
          rw [keyKind'_eq, List.mapM_toArray, map_eq_pure_bind]
          refine wpAny_bind (wpAny_bind (firsts_tups _ _ e ht fun fs hfs => wpAny_pure ?_))
          rw [if_neg (by rw [notall fs hfs]; simp)]
          cases hfs with
          | @cons f d fs' ds' hf hr =>
            rw [h0] at hf
            have hf' : f = none := by
              cases f with
              | none => rfl
              | some x => simp [fullT] at hf
            subst hf'
            rw [if_neg (by simp)]
            rw [oneTypeOnly'_eq, List.mapM_toArray, map_eq_pure_bind]
            refine wpAny_bind (wpAny_bind (wpAny_bind (kas_mapM (r := Value.type "tuple") _ (fun v hv Q' hq => ?_) (wpAny_pure ?_))))
            · obtain ⟨d, hd, as, r⟩ := e.left v hv
              obtain ⟨xs, rfl⟩ := ht d hd
              exact (looks_reads r).here hq
            · have hall : ((List.map (fun _ => Value.type "tuple") (v₀ :: vs₀)).toArray.all fun x => x == Value.type "tuple") = true := by
                simp only [List.all_toArray, List.all_map, List.all_eq_true]
                intro _ _
                exact beq_self_eq_true _
              have h0 : (List.map (fun _ => Value.type "tuple") (v₀ :: vs₀)).toArray[0]? = some (Value.type "tuple") := by simp
              rw [h0]
              simp only [hall, if_true]
              exact wpAny_pure (wpAny_pure hq)
        · refine ⟨general', gen, fun h2 E Q hq => ?_⟩
          rw [keyKind'_eq, List.mapM_toArray, map_eq_pure_bind]
          refine wpAny_bind (wpAny_bind (firsts_tups _ _ e ht fun fs hfs => wpAny_pure ?_))
          rw [if_neg (by rw [notall fs hfs]; simp)]
          cases hfs with
          | @cons f d fs' ds' hf hr =>
            obtain ⟨zs, rfl⟩ := ht d₀ List.mem_cons_self
            rw [fullT_of h0] at hf
            obtain ⟨x, rfl⟩ := Option.isSome_iff_exists.mp hf
            rw [if_pos (by simp)]
            exact wpAny_pure hq
def SortX (ds : List PyData) : Prop := Sortable ds ∨ ∀ d ∈ ds, ∃ xs, d = .tuple xs
theorem sortsAt_X {vs : List Value} {ds : List PyData} (e : EachIs (fun v d => ∃ as, Reads s.heap v d as) vs ds) (hal : AllAlike ds) (hk : SortX ds) (hu : ∀ d, d ∈ ds → A.units + d.depth < cLine) : SortsAt prog w A s (dataKind s.heap ds) vs := by
  rcases hk with hk | hk
  · exact SortsAt.data e hal hk hu
  · exact sortsAt_tuples e hal hk hu
variable {β : Type} {vs : List Value} {bs : List β} {enc : β → PyData} {R : Value → β → Prop}
theorem list_sort_X {a : Addr} {n : Nat} {Q : Value → Shared → Prop} (ho : s.heap.get? a = some (seqObj "list" vs.toArray n)) (e : EachIs R vs bs) (er : EachIs (fun v b => ∃ as, Reads s.heap v (enc b) as ∧ a ∉ as) vs bs) (hal : AllAlike (bs.map enc)) (hk : SortX (bs.map enc)) (hL : bs.length ≤ sizeLine)
    (hu : ∀ b, b ∈ bs → A.units + 1 + (enc b).depth < cLine) (h : ∀ out, out.length = bs.length → EachIs R out (bs.mergeSort (dataLe false enc)) → Q .none { s with heap := sortedHeap s.heap a vs (List.toArray out) }) :
    wpAny (model prog w) A (call (.builtin "list.sort") [.ref a]) Q E s := by
  have er' : EachIs (fun v b => ∃ as, Reads (sortingHeap s.heap a vs) v (enc b) as) vs bs := each_keepBut (h' := sortingHeap s.heap a vs) (fun _ _ hb q => sortingHeap_old hb q) (fun o q => by rw [ho] at q; rw [← Option.some.inj q]) hal er
  refine wpAny_call_entry PyProof.Rows.slot_list_sort ⟨_, ho, rfl⟩ PyProof.Rows.entry_list_sort (list_sort_vals (κ := dataKind (sortingHeap s.heap a vs) (bs.map enc)) ho (sortsAt_X (s := { s with heap := sortingHeap s.heap a vs }) (each_map (R := fun v d => ∃ as, Reads (sortingHeap s.heap a vs) v d as) enc er') hal hk (bound_map hu)) (by rw [e.length]; exact hL) ⟨.none, rfl, ?_⟩) (PyProof.Rows.args_list_sort _)
  exact h _ (by rw [sortVals_length false rfl]; exact e.length) (sortVals_data false e er' hal)
end
end BS
end
section
set_option Elab.async false
set_option linter.all false
set_option maxRecDepth 100000
set_option maxHeartbeats 4000000
namespace BS
open PySem PySem.Spec L2 PyProof.Rows DL
theorem lt_lexL : ∀ x y : List Int, decide (x < y) = lexL x y
  | [], [] => by simp [lexL]
  | [], y :: ys => by simp [lexL]
  | x :: xs, [] => by simp [lexL]
  | x :: xs, y :: ys => by
    rw [lexL, ← lt_lexL xs ys]
    by_cases h : x < y <;> by_cases h2 : x = y <;> by_cases h3 : xs < ys <;> simp [List.cons_lt_cons_iff, h, h2, h3]
theorem data_lexL (x y : List Int) : PySem.W.dataLt (.tuple (x.map .int)) (.tuple (y.map .int)) = lexL x y := by
  rw [PySem.W.dataLt_tuple]
  exact (PySem.W.dataLt_ints x y).trans (lt_lexL x y)
theorem alike_ints2 : ∀ x y : List Int, PySem.W.alikeAll (x.map .int) (y.map .int) = true
  | [], _ => by simp [PySem.W.alikeAll]
  | _ :: _, [] => by simp [PySem.W.alikeAll]
  | x :: xs, y :: ys => by simp [PySem.W.alikeAll, PySem.W.alike, alike_ints2 xs ys]
abbrev encT (q : Addr × List Int) : PyData := .tuple (q.2.map .int)
theorem le_lexL (p q : Addr × List Int) : PySem.W.dataLe false encT p q = !lexL q.2 p.2 := by
  show (!PySem.W.dataLt (encT q) (encT p)) = _
  rw [data_lexL]
theorem le_tr (x y z : Addr × List Int) (h1 : PySem.W.dataLe false encT x y = true) (h2 : PySem.W.dataLe false encT y z = true) : PySem.W.dataLe false encT x z = true := by
  rw [le_lexL] at *
  simp only [Bool.not_eq_true'] at *
  rcases lexL_tri z.2 x.2 with h | h | h
  · rcases lexL_tri x.2 y.2 with k | k | k
    · rw [lexL_tr h k] at h2; cases h2
    · rw [← k, h] at h2; cases h2
    · rw [k] at h1; cases h1
  · rw [h]; exact lexL_irr _
  · exact Bool.eq_false_iff.mpr fun e => by have := lexL_tr e h; rw [lexL_irr] at this; cases this
theorem le_tot (x y : Addr × List Int) : (PySem.W.dataLe false encT x y || PySem.W.dataLe false encT y x) = true := by
  rw [le_lexL, le_lexL]
  cases h : lexL y.2 x.2 with
  | false => rfl
  | true =>
    cases k : lexL x.2 y.2 with
    | false => rfl
    | true => have := lexL_tr h k; rw [lexL_irr] at this; cases this
theorem each_of {R : Value → (Addr × List Int) → Prop} : ∀ (l : List (Addr × List Int)), (∀ q ∈ l, R (Value.ref q.1) q) → PySem.W.EachIs R (l.map fun q => Value.ref q.1) l
  | [], _ => .nil
  | q :: l, h => .cons (h q List.mem_cons_self) (each_of l fun r hr => h r (List.mem_cons_of_mem _ hr))
theorem of_each : ∀ {out : List Value} {l : List (Addr × List Int)}, PySem.W.EachIs (fun v q => v = Value.ref q.1) out l → out = l.map fun q => Value.ref q.1
  | _, _, .nil => rfl
  | _, _, .cons h r => by rw [h, of_each r]; rfl
section
variable {P : Program} {w : World} {A : Around} {E : Value → Shared → Prop} {s : Shared}
theorem sorted_B {a : Addr} {L : List (Addr × List Int)} {es : Array (Int × Value)} {ep : Nat} {t : SetTable} {Q : Value → Shared → Prop} (R : SetB P w s.heap a L es ep t) (hh : A.handled = none) (hfew : L.length < 4000) (hu : A.units + 64 < cLine)
    (hQ : ∀ s' p (out : Array Value) (c : Nat) (L' : List (Addr × List Int)), (∀ b o, s.heap.get? b = some o → s'.heap.get? b = some o) → s'.gens = s.gens → s'.os = s.os → s.heap.objs.size ≤ p →
      s'.heap.get? p = some (seqObj "list" out c) → out.toList = L'.map (fun q => Value.ref q.1) → L'.Perm L → L'.Pairwise (fun q r => lexL r.2 q.2 = false) → Q (.ref p) s') :
    wpAny (model P w) A (call (.builtin "sorted") [.ref a]) Q E s := by
  obtain ⟨o, ho, hex, hd⟩ := R.ob
  have hsz := rows_len R.rows
  refine Calls.call_function_entry kind_sorted plain_sorted entry_sorted (args_sorted1 _) ?_
  unfold Builtin.«sorted»
  refine wpAny_bind (m := checkCount "sorted" 1 1 _) (wpAny_pure ?_)
  refine wpAny_bind (collect_set (A := A.in1) hh ⟨o, ho, hex.1, hd⟩ R.fits (by unfold scanBound; omega) R.tab.ris R.led fun s1 vs k1 hz g1 o1 pm => ?_)
  have hes : es.toList.map (·.2) = L.map fun q => Value.ref q.1 := by
    rw [R.rows]
    unfold rowsOf
    rw [List.map_map]
    rfl
  rw [hes] at pm
  have one : ∀ q ∈ L, ∀ r ∈ L, q.1 = r.1 → q = r := fun q hq r hr e => by
    have a1 := R.tup q hq
    have a2 := R.tup r hr
    rw [e] at a1
    exact Prod.ext e (a1.inj a2)
  obtain ⟨L1, rfl, hs⟩ : ∃ L1 : List (Addr × List Int), vs = L1.map (fun q => Value.ref q.1) ∧ ∀ q ∈ L1, q ∈ L := by
    have : ∀ vs : List Value, (∀ v ∈ vs, ∃ q ∈ L, v = Value.ref q.1) → ∃ L1 : List (Addr × List Int), vs = L1.map (fun q => Value.ref q.1) ∧ ∀ q ∈ L1, q ∈ L := by
      intro vs
      induction vs with
      | nil => exact fun _ => ⟨[], rfl, fun q hq => nomatch hq⟩
      | cons v vs ih =>
        intro hv
        obtain ⟨q, hq, rfl⟩ := hv v List.mem_cons_self
        obtain ⟨L1, rfl, hs⟩ := ih fun u hu => hv u (List.mem_cons_of_mem _ hu)
        refine ⟨q :: L1, rfl, fun r hr => ?_⟩
        rcases List.mem_cons.mp hr with rfl | z
        · exact hq
        · exact hs r z
    exact this vs fun v hv => by
      obtain ⟨q, hq, e⟩ := List.mem_map.mp (pm.mem_iff.mp hv)
      exact ⟨q, hq, e.symm⟩
  have p1 : L1.Perm L := by
    have nL : L.Nodup := nodup_of_map R.nd
    have nref : (L.map fun q => Value.ref q.1).Nodup := List.pairwise_map.mpr (List.Pairwise.imp_of_mem (fun {q r} hq hr hne e => by
      injection e with e
      exact hne (one q hq r hr e)) nL)
    refine (List.perm_ext_iff_of_nodup (nodup_of_map (pm.nodup_iff.mpr nref)) nL).mpr fun q => ⟨hs q, fun hq => ?_⟩
    obtain ⟨r, hr, e⟩ := List.mem_map.mp (pm.mem_iff.mpr (List.mem_map.mpr ⟨q, hq, rfl⟩))
    injection e with e
    rw [← one r (hs r hr) q hq e]
    exact hr
  have hl1 := p1.length_eq
  refine wpAny_bind (wpAny_newList ?_ (by rw [sizeLine_eq, List.length_map]; omega))
  generalize hvs : (L1.map fun q => Value.ref q.1) = vs
  have hoL : (s1.heap.push (seqObj "list" vs.toArray 0)).get? s1.heap.objs.size = some (seqObj "list" vs.toArray 0) := Heap.get?_push_size _ rfl
  have rd : ∀ q ∈ L1, Reads (s1.heap.push (seqObj "list" vs.toArray 0)) (.ref q.1) (encT q) [] := fun q hq => by
    obtain ⟨ob, items, n, h1, h2, h3, h4⟩ := isT_keep (R.tup q (hs q hq)) fun b u e => Heap.get?_push_of_some _ (k1 b u e)
    exact .tuple h1 h2 h3 (readsAll_of (ints_of_items h4))
  refine wpAny_bind (wpAny_holding (BS.list_sort_X (s := { s1 with heap := s1.heap.push (seqObj "list" vs.toArray 0) }) (enc := encT) (bs := L1) (R := fun v q => v = Value.ref q.1) hoL (by rw [← hvs]; exact each_of L1 fun q _ => rfl) (by rw [← hvs]; exact each_of L1 fun q hq => ⟨[], by rw [hvs]; exact rd q hq, fun z => nomatch z⟩)
    (fun d hd d' hd' => ?_) (.inr fun d hd => ?_) (by rw [sizeLine_eq]; omega) (fun b hb => ?_) fun out a1 a2 => ?_))
  · obtain ⟨q, _, rfl⟩ := List.mem_map.mp hd
    obtain ⟨r, _, rfl⟩ := List.mem_map.mp hd'
    exact alike_ints2 q.2 r.2
  · obtain ⟨q, hq, rfl⟩ := List.mem_map.mp hd
    exact ⟨_, rfl⟩
  · have : (encT b).depth ≤ 1 := by
      simp only [encT, PyData.depth, dep_ints]
      omega
    show A.units + 1 + _ + _ < _
    omega
  · obtain ⟨c, hc⟩ := sortedHeap_at (vs := vs) (out := List.toArray out) hoL
    refine wpAny_pure ⟨_, rfl, hQ _ s1.heap.objs.size (List.toArray out) c (L1.mergeSort (PySem.W.dataLe false encT)) (fun b u e => ?_) g1 o1 hz hc (by simpa using of_each a2) ((List.mergeSort_perm _ _).trans p1) ?_⟩
    · have q := k1 b u e
      have hlt := Heap.lt_size q
      show (sortedHeap (s1.heap.push (seqObj "list" vs.toArray 0)) s1.heap.objs.size vs (List.toArray out)).get? b = some u
      rw [sortedHeap_old (Nat.ne_of_lt hlt) (by rw [size_push']; exact Nat.lt_succ_of_lt hlt)]
      exact Heap.get?_push_of_some _ q
    · refine List.Pairwise.imp (fun {q r} h => ?_) (List.pairwise_mergeSort le_tr le_tot L1)
      rw [le_lexL] at h
      simpa using h
end
end BS
end
section
set_option Elab.async false
set_option linter.all false
set_option maxRecDepth 100000
set_option maxHeartbeats 4000000
namespace BS
open PySem PySem.Spec L2 PyProof.Rows DL
variable [tB : DL.Tb] [gR : Gr]
def SetB0 (P : Program) (w : World) (h : Heap) (a : Addr) (L : List (Addr × List Int)) : Prop :=
  ∃ (es : Array (Int × Value)) (ep : Nat) (t : SetTable), (∃ o, h.get? a = some o ∧ o.ExactSet ∧ o.data = .set es ep t) ∧ es.toList = rowsOf P w L ∧ Tb t (L.map fun p => thash P w p.2) ∧ (L.map (·.2)).Nodup ∧ t.plain = true ∧
    (w.params.followText "set-order" = true ∨ t.led = true) ∧ L.length * 5 < t.mask * 3
def SetBO (P : Program) (w : World) (a : Addr) (L : List (Addr × List Int)) : HO := .ext fun h => SetB0 P w h a L
theorem SetB.b0 {P : Program} {w : World} {h : Heap} {a : Addr} {L : List (Addr × List Int)} {es : Array (Int × Value)} {ep : Nat} {t : SetTable} (R : SetB P w h a L es ep t) : SetB0 P w h a L := ⟨es, ep, t, R.ob, R.rows, R.tab, R.nd, R.plain, R.led, R.room⟩
theorem setBO_new {P : Program} {w : World} {H : Hp} {h : Heap} {a : Addr} {L : List (Addr × List Int)} (R : SetB0 P w h a L) : ObjOk P w H h a (SetBO P w a L) := by
  have ⟨es, ep, t, ⟨o, ho, r⟩, q⟩ := R
  refine ⟨R, ⟨o, ho⟩, fun h1 h2 p k => ?_⟩
  obtain ⟨es, ep, t, ⟨o, ho, r⟩, q⟩ := p
  exact ⟨es, ep, t, ⟨o, k o ho, r⟩, q⟩
section
variable {X : Cx}
def rSetB (K : PySem.W.Frag) (P : Program) (w : World) : List V → Hp → VK → Prop := fun xs H Q => ∃ (l : Addr) (ks : List (Addr × List Int)), xs = [V.ref l] ∧ (SqL K H l (ks.map fun p => V.ref p.1) ∨ SqT K H l (ks.map fun p => V.ref p.1)) ∧ (∀ p ∈ ks, SqT K H p.1 (p.2.map V.int)) ∧ ks.length < 4000 ∧
  ∀ a L, H a = none → (∀ p ∈ L, p ∈ ks) → (∀ p ∈ ks, p.2 ∈ L.map (·.2)) → L.length ≤ ks.length → Q (.ref a) (upd H a (SetBO P w a L))
theorem cr_setB (hc : X.calm = true) (hu : X.A.units + 64 < cLine) : CallR X (.type "set") (rSetB X.K X.prog X.w) := by
  intro pins s σ H xs us Q I r h
  obtain ⟨l, ks, rfl, hl, hk, hf, q⟩ := h
  rw [Vals.ref1 r]
  have hn : H s.heap.objs.size = none := I.hok.fresh (Nat.le_refl _)
  have fin : ∀ (h' : Heap) (tk : Nat) L es ep t, SetB X.prog X.w h' s.heap.objs.size L es ep t → Got ks ks.length L → (∀ b o, s.heap.get? b = some o → h'.get? b = some o) → ∃ x H', Inv X pins σ H' { s with heap := h', toks := tk } ∧ RelV x (.ref s.heap.objs.size) ∧ Q x H' := fun h' tk L es ep t R g k =>
    ⟨.ref s.heap.objs.size, upd H s.heap.objs.size (SetBO X.prog X.w s.heap.objs.size L), I.laid (t' := tk) k (Nat.le_refl _) (setBO_new R.b0), rfl, q _ L hn (fun p hp => List.mem_of_mem_take (g.sub p hp)) (fun p hp => g.all p (by rw [List.take_length]; exact hp)) g.len⟩
  rcases hl with hl | hl
  · obtain ⟨its, rv, pl, hz⟩ := I.list hl
    exact call_set_list (P := X.prog) (w := X.w) ks (I.ok.hd hc) pl.isList (by simpa using refs_of_vals rv) (fun p hp => I.isT (hk p hp)) hf (by omega) fin
  · obtain ⟨its, rv, ⟨ol, o1, o2, n, o3⟩, hz⟩ := I.tuple hl
    exact call_set_tuple (P := X.prog) (w := X.w) ks (I.ok.hd hc) ⟨ol, o1, o2, n, o3⟩ (by simpa using refs_of_vals rv) (fun p hp => I.isT (hk p hp)) hf (by omega) fin
def rSortedB (K : PySem.W.Frag) (P : Program) (w : World) : List V → Hp → VK → Prop := fun vs H Q => ∃ (a : Addr) (L : List (Addr × List Int)), vs = [V.ref a] ∧ H a = some (SetBO P w a L) ∧ (∀ p ∈ L, SqT K H p.1 (p.2.map V.int)) ∧ L.length < 4000 ∧
  ∀ (L' : List (Addr × List Int)) (p : Addr), L'.Perm L → (L'.map (·.2)).Nodup → L'.Pairwise (fun q r => lexL r.2 q.2 = false) → H p = none → Q (.ref p) (upd H p (.lst (L'.map fun q => V.ref q.1)))
theorem cr_sortedB (hc : X.calm = true) (hu : X.A.units + 64 < cLine) : CallR X (.builtin "sorted") (rSortedB X.K X.prog X.w) := by
  intro pins s σ H vs us Q I r h
  obtain ⟨a, L, rfl, ha, hk, hf, q⟩ := h
  obtain ⟨es, ep, t, r1, r2, r3, r4, r5, r6, r7⟩ : SetB0 X.prog X.w s.heap a L := (I.hok a _ ha).1
  rw [Vals.ref1 r]
  refine sorted_B (P := X.prog) (w := X.w) ⟨r1, r2, r3, r4, fun p hp => I.isT (hk p hp), r5, r6, r7⟩ (I.ok.hd hc) hf hu fun s' p out c L' k g o hp hg hout pm pw => ?_
  have hlen : (L'.map fun q => V.ref q.1).length ≤ sizeLine := by rw [List.length_map, sizeLine_eq, pm.length_eq]; omega
  have hn : H p = none := I.hok.fresh hp
  have hv : Vals (L'.map fun q => V.ref q.1) out.toList := by rw [hout]; exact vals_of_refs L'
  have J : Inv X pins σ (upd H p (.lst (L'.map fun q => V.ref q.1))) { s with heap := s'.heap, gens := s'.gens, drawn := s'.drawn, toks := s'.toks } :=
    I.call (ch := []) (Un.laid k hp hn) (I.hok.laid k hp ⟨hlen, out.toList, c, hv, hg⟩) (by rw [g]; exact I.bare) (fun _ z => nomatch z)
  have e : s' = { s with heap := s'.heap, gens := s'.gens, drawn := s'.drawn, toks := s'.toks } := by
    cases s'
    cases s
    cases o
    rfl
  rw [e]
  exact ⟨.ref p, _, J, rfl, q L' p pm ((pm.map (·.2)).nodup_iff.mpr r4) pw hn⟩
end
section
variable {P : Program} {w : World} {K : PySem.W.Frag} {mg : Str → Option Value} {base : Heap} {X : Cx} {N : List Str} {sc fs : Scope} {k : Nat}
/-- sorted(set(x)) -/
def qSortB (m : Bool) (te : TD) : TD := fun ε st Q => te ε st fun x s1 => match sitems s1 x with
  | some l => (match tints l with
    | some ts => ts.length < 4000 ∧ newL m ((sortU ts).map fun a => .d (.tuple (a.map .int))) s1 Q
    | none => False)
  | none => False
theorem de_sortB {e : Expr} {te : TD} {p p2 pos pos2 : Pos} (m : Bool) (c : Cok P w K mg base X N sc fs k) (hg : glB sc "sorted" = true) (hm : mg "sorted" = none) (hg2 : glB sc "set" = true) (hm2 : mg "set" = none) (ha : DE X e te)
    (he : starEach [e] X.env = (false, eval e X.env) :: starEach [] X.env := by rfl) : DE X (.Call (.Name "sorted" p) [.Call (.Name "set" p2) [e] [] pos2] [] pos) (qSortB m te) := by
  obtain ⟨t1, p1, a1⟩ := ha
  have g := gl_of c hg
  have g2 := gl_of c hg2
  have hc := c.calm
  refine ⟨⟨_, pe_callB (cr_sortedB hc c.hu65) g.1 (by rw [c.hmg]; exact hm) bb_sorted (pa_cons (pe_callTy (cr_setB hc c.hu65) g2.1 (by rw [c.hmg]; exact hm2) bt_set (pa_cons p1 pa_nil he) g2.2.1 g2.2.2 he rfl) pa_nil rfl) g.2.1 g.2.2 rfl rfl, fun F σ H ε st Qd Q R E h kk => ?_⟩⟩
  refine a1.go (W := fun x H1 => _) R E h kk fun F1 H1 s1 v y R1 E1 rv q kk => ?_
  split at q
  rotate_left
  · exact q.elim
  rename_i l el
  split at q
  rotate_left
  · exact q.elim
  rename_i ts et
  obtain ⟨hf, q⟩ := q
  obtain ⟨pa, vs, rfl, hq, s⟩ := sitems_rv R1 rv el
  obtain ⟨ks, rfl, rfl, hF⟩ := tints_rvs s et
  rw [List.length_map] at hf
  have hk : ∀ z ∈ ks, SqT X.K H1 z.1 (z.2.map V.int) := fun z hz => SqT.of (R1.sub _ _ (hF z hz)).1
  refine ⟨pa, ks, rfl, hq, hk, hf, fun a L ha h1 h2 hlen => ?_⟩
  obtain ⟨R2, S2⟩ := R1.hide (o := SetBO X.prog X.w a L) ha
  refine ⟨a, L, rfl, upd_same, fun z hz => SqT.of (R2.sub _ _ (hF z (h1 z hz))).1, by omega, fun L' pp pm nd pw hp => ?_⟩
  have hL : ∀ z ∈ L', z ∈ ks := fun z hz => h1 z (pm.mem_iff.mp hz)
  have e : sortU (ks.map (·.2)) = L'.map (·.2) := by
    refine sortU_eq ?_ fun x => ?_
    · refine List.pairwise_map.mpr ?_
      have nd' : L'.Pairwise fun q r => q.2 ≠ r.2 := List.pairwise_map.mp nd
      refine List.Pairwise.imp (fun {y z} hyz => ?_) (List.Pairwise.and nd' pw)
      rcases lexL_tri y.2 z.2 with e | e | e
      · exact e
      · exact absurd e hyz.1
      · rw [hyz.2] at e; cases e
    · constructor
      · intro hx
        obtain ⟨z, hz, rfl⟩ := List.mem_map.mp hx
        obtain ⟨z', hz', e⟩ := List.mem_map.mp (h2 z hz)
        exact List.mem_map.mpr ⟨z', pm.mem_iff.mpr hz', e⟩
      · intro hx
        obtain ⟨z, hz, rfl⟩ := List.mem_map.mp hx
        exact List.mem_map.mpr ⟨z, hL z hz, rfl⟩
  rw [e, List.map_map] at q
  refine new_lst R2 (m := m) ?_ hp q fun F' b H' b' st' S3 R3 r3 q3 => kk F' b H' b' st' (S2.trans S3) R3 r3 q3
  have : ∀ L'' : List (Addr × List Int), (∀ z ∈ L'', z ∈ ks) → RVs X.K F1 (L''.map fun q => V.ref q.1) (L''.map ((fun a => DV.d (.tuple (a.map .int))) ∘ (·.2))) := by
    intro L''
    induction L'' with
    | nil => exact fun _ => .nil
    | cons z r ih => exact fun hz => .cons (.d (.tup (hF z (hz z List.mem_cons_self)) (rp_all z.2))) (ih fun y hy => hz y (List.mem_cons_of_mem _ hy))
  exact this L' hL
end
end BS
end
section
set_option Elab.async false
set_option linter.all false
set_option maxRecDepth 100000
set_option maxHeartbeats 4000000
namespace DL
open PySem PySem.Spec L2 PyProof.Rows
variable [tB : Tb] [gR : Gr]
section
variable {X : Cx}
abbrev leD : PyData → PyData → Bool := PySem.W.dataLe false id
end
section
variable {P : Program} {w : World} {K : PySem.W.Frag} {mg : Str → Option Value} {base : Heap} {X : Cx} {N : List Str} {sc fs : Scope} {k : Nat}
/-- sorted(x) of a list of data -/
def qSortD (m : Bool) (te : TD) : TD := fun ε st Q => te ε st fun x s1 => match (litems s1 x).bind datas with
  | some ds => PySem.W.AllAlike ds ∧ BS.SortX ds ∧ ds.length ≤ 100000 ∧ (∀ d ∈ ds, d.depth ≤ 16) ∧ newL m ((ds.mergeSort leD).map .d) s1 Q
  | none => False
end
end DL
end
section
set_option Elab.async false
set_option linter.all false
set_option maxRecDepth 100000
set_option maxHeartbeats 4000000
namespace DL
open PySem PySem.Spec L2 PyProof.Rows
variable [tB : Tb] [gR : Gr]
section
variable {X : Cx}
def rInX (K : PySem.W.Frag) (neg : Bool) : R2 := fun x y H Q => ∃ d ds, Dp K H x d ∧ (Dp K H y (.list ds) ∨ Dp K H y (.tuple ds)) ∧ d.canLay0 = true ∧ d.depth ≤ 32 ∧ PyData.canLayAll0 ds = true ∧ Q (.bl (if neg then !(ds.any fun z => PyData.eqv z d) else ds.any fun z => PyData.eqv z d)) H
theorem op_notInX (hu : X.A.units + 64 < cLine) : OpR X (compareOp .NotIn) (rInX X.K true) := by
  intro pins s σ H x y v u Q I rx ry h
  obtain ⟨d, ds, hd, he, sd, dd, se, q⟩ := h
  obtain ⟨as, r1⟩ := Dp.reads I d x v hd rx
  have room : X.A.units + 1 + min (PyData.depthAll ds) d.depth < cLine := by
    have := Nat.min_le_right (PyData.depthAll ds) d.depth
    omega
  rcases he with he | he
  · obtain ⟨bs, r2⟩ := Dp.reads I (.list ds) y u he ry
    exact SeqAt.notIn_list_reads r2 r1 se sd room ⟨.bl _, H, I, rfl, q⟩
  · obtain ⟨bs, r2⟩ := Dp.reads I (.tuple ds) y u he ry
    exact SeqAt.notIn_tuple_reads r2 r1 se sd room ⟨.bl _, H, I, rfl, q⟩
def seqD : PyData → Option (List PyData)
  | .list ds => some ds
  | .tuple ds => some ds
  | _ => none
def qIn (neg : Bool) : R2D := fun x y st Q => match fz st x, (fz st y).bind seqD with
  | some d, some ds => d.canLay0 = true ∧ d.depth ≤ 32 ∧ PyData.canLayAll0 ds = true ∧ Q (.d (.bool (if neg then !(ds.any fun z => PyData.eqv z d) else ds.any fun z => PyData.eqv z d))) st
  | _, _ => False
theorem s2_in {K : PySem.W.Frag} {neg : Bool} : S2 K (rInX K neg) (qIn neg) := fun F H st v w x y Qd Q R rv rw' h kk => by
  unfold qIn at h
  split at h
  rotate_left
  · exact h.elim
  rename_i d ds e1 e2
  obtain ⟨c, e3, e4⟩ := Option.bind_eq_some_iff.mp e2
  obtain ⟨h1, h2, h3, q⟩ := h
  have hc := fz_dp R rw' e3
  refine ⟨d, ds, fz_dp R rv e1, ?_, h1, h2, h3, kk.at R (.d (.bl _)) q⟩
  cases c with
  | list l => cases e4; exact .inl hc
  | tuple l => cases e4; exact .inr hc
  | _ => cases e4
theorem op_qNotIn (hu : X.A.units + 64 < cLine) : ∃ r', OpR X (compareOp .NotIn) r' ∧ S2 X.K r' (qIn true) := ⟨_, op_notInX hu, s2_in⟩
end
theorem any_int (a : List Int) (i : Int) : ((a.map PyData.int).any fun z => PyData.eqv z (.int i)) = decide (i ∈ a) := by
  rw [Bool.eq_iff_iff, List.any_map, List.any_eq_true, decide_eq_true_eq]
  constructor
  · rintro ⟨j, hj, h⟩
    simp only [Function.comp, PyData.eqv] at h
    have : j = i := by simpa using h
    rw [← this]
    exact hj
  · intro h
    exact ⟨i, h, by simp [Function.comp, PyData.eqv]⟩
theorem lay_ints (a : List Int) : PyData.canLayAll0 (a.map PyData.int) = true := by
  induction a with
  | nil => simp [PyData.canLayAll0]
  | cons x a ih => simp [PyData.canLayAll0, PyData.canLay0, ih]
theorem qIn_IT (neg : Bool) (i : Int) (a : List Int) (st : Sto) (Q : DV → Sto → Prop) : qIn neg (.d (.int i)) (.d (.tuple (a.map .int))) st Q = Q (.d (.bool (if neg then !decide (i ∈ a) else decide (i ∈ a)))) st := by
  unfold qIn
  simp only [fz, Option.bind_some, seqD, any_int, lay_ints, PyData.canLay0, PyData.depth, Nat.zero_le, true_and]
theorem qIn_IL (neg : Bool) (i : Int) (a : List Int) (st : Sto) (Q : DV → Sto → Prop) : qIn neg (.d (.int i)) (.d (.list (a.map .int))) st Q = Q (.d (.bool (if neg then !decide (i ∈ a) else decide (i ∈ a)))) st := by
  unfold qIn
  simp only [fz, Option.bind_some, seqD, any_int, lay_ints, PyData.canLay0, PyData.depth, Nat.zero_le, true_and]
theorem eqvAll_ints : ∀ a b : List Int, PyData.eqvAll (a.map .int) (b.map .int) = decide (a = b)
  | [], [] => by simp [PyData.eqvAll]
  | [], y :: ys => by simp [PyData.eqvAll]
  | x :: xs, [] => by simp [PyData.eqvAll]
  | x :: xs, y :: ys => by
    rw [List.map_cons, List.map_cons, PyData.eqvAll, eqvAll_ints xs ys, PyData.eqv]
    by_cases h1 : x = y <;> by_cases h2 : xs = ys <;> simp [h1, h2]
theorem any_tup (l : List (List Int)) (a : List Int) : ((l.map fun b => PyData.tuple (b.map .int)).any fun z => PyData.eqv z (.tuple (a.map .int))) = decide (a ∈ l) := by
  rw [Bool.eq_iff_iff, List.any_map, List.any_eq_true, decide_eq_true_eq]
  constructor
  · rintro ⟨b, hb, h⟩
    simp only [Function.comp, PyData.eqv, eqvAll_ints, decide_eq_true_eq] at h
    rw [← h]
    exact hb
  · intro h
    exact ⟨a, h, by simp only [Function.comp, PyData.eqv, eqvAll_ints, decide_true]⟩
theorem lay_tups (l : List (List Int)) : PyData.canLayAll0 (l.map fun b => PyData.tuple (b.map .int)) = true := by
  induction l with
  | nil => simp [PyData.canLayAll0]
  | cons x a ih => simp only [List.map_cons, PyData.canLayAll0, PyData.canLay0, ih, lay_ints, Bool.and_self]
theorem dep_tup (a : List Int) : (PyData.tuple (a.map .int)).depth ≤ 32 := by
  have : PyData.depthAll (a.map .int) = 0 := dep_ints a
  simp only [PyData.depth, this]
  omega
theorem qIn_TT (neg : Bool) (a : List Int) (l : List (List Int)) (st : Sto) (Q : DV → Sto → Prop) : qIn neg (.d (.tuple (a.map .int))) (.d (.tuple (l.map fun b => .tuple (b.map .int)))) st Q = Q (.d (.bool (if neg then !decide (a ∈ l) else decide (a ∈ l)))) st := by
  have h := dep_tup a
  unfold qIn
  simp only [fz, Option.bind_some, seqD, any_tup, lay_tups, lay_ints, PyData.canLay0, h, true_and]
theorem qIn_TL (neg : Bool) (a : List Int) (l : List (List Int)) (st : Sto) (Q : DV → Sto → Prop) : qIn neg (.d (.tuple (a.map .int))) (.d (.list (l.map fun b => .tuple (b.map .int)))) st Q = Q (.d (.bool (if neg then !decide (a ∈ l) else decide (a ∈ l)))) st := by
  have h := dep_tup a
  unfold qIn
  simp only [fz, Option.bind_some, seqD, any_tup, lay_tups, lay_ints, PyData.canLay0, h, true_and]
end DL
end
section
set_option Elab.async false
set_option linter.all false
set_option maxRecDepth 100000
set_option maxHeartbeats 2000000
namespace L2
open PySem PySem.Spec PyProof.Rows
end L2
namespace BS
open PySem PySem.Spec L2 PyProof.Rows DL
section
variable {X : Cx}
def keyInt : Key → Int
  | .inl i => i
  | .inr _ => 0
theorem keyInts_inl (ns : List Int) : (ns.map Sum.inl : List Key).map keyInt = ns := by
  induction ns with
  | nil => rfl
  | cons n ns ih => rw [List.map_cons, List.map_cons, ih]; rfl
def IntKeys {β : Type} (kvs : List (List Key × β)) : Prop := ∀ p ∈ kvs, ∃ ns : List Int, p.1 = ns.map Sum.inl
end
end BS
namespace DL
open PySem PySem.Spec L2 PyProof.Rows
variable [tB : Tb] [gR : Gr]
section
variable {P : Program} {w : World} {K : PySem.W.Frag} {mg : Str → Option Value} {base : Heap} {X : Cx} {N : List Str} {sc fs : Scope} {k : Nat}
def tupD (a : List Int) : DV := .d (.tuple (a.map .int))
def keyX (x : DV) : Option (List Key) := match titems x with | some ys => keyT ys | none => none
/-- {k: v}, k a tuple -/
def qDispT (tk tv : TD) : TD := fun ε st Q => tk ε st fun x s1 => tv ε s1 fun y s2 => match keyX x with
  | some q => ∀ p, s2 p = none → Q (.r p) (up s2 p (.dT [(q, y)]))
  | none => False
end
end DL
end
section
set_option Elab.async false
set_option linter.all false
set_option maxRecDepth 100000
set_option maxHeartbeats 2000000
namespace DL
open PySem PySem.Spec L2 PyProof.Rows
variable [tB : Tb] [gR : Gr]
section
variable {P : Program} {w : World} {K : PySem.W.Frag} {mg : Str → Option Value} {base : Heap} {X : Cx} {N : List Str} {sc fs : Scope} {k : Nat}
def isDM : Option MO → Bool
  | some (.dK _) => true
  | some (.dT _) => true
  | some (.lk _ _ _) => true
  | _ => false
/-- d.get(k, x) -/
def qGet (td ty tx : TD) : TD := fun ε st Q => td ε st fun x s1 => match x with
  | .r a => isDM (s1 a) = true ∧ ty ε s1 fun y s2 => tx ε s2 fun z s3 => match dlook (s3 a) y with
    | some o => Q (o.getD z) s3
    | none => False
  | _ => False
end
end DL
end
section
set_option Elab.async false
set_option linter.all false
set_option maxRecDepth 100000
set_option maxHeartbeats 2000000
namespace L2
open PySem PySem.Spec PyProof.Rows
end L2
namespace DL
open PySem PySem.Spec L2 PyProof.Rows
variable [tB : Tb] [gR : Gr]
section
variable {P : Program} {w : World} {K : PySem.W.Frag} {mg : Str → Option Value} {base : Heap} {X : Cx} {N : List Str} {sc fs : Scope} {k : Nat}
/-- the pairs of a dict with tuples of ints as keys -/
def itemsD (kvs : List (List Key × DV)) : List DV := kvs.map fun p => mkT [tupD (p.1.map BS.keyInt), p.2]
/-- .. in e.items(), the dict locked -/
def qiItems (te : TD) : TDi := fun ε st Q => te ε st fun x s1 => match x with
  | .r a => (match s1 a with
    | some (.lk o ws kvs) => BS.IntKeys kvs ∧ Q (itemsD kvs) (fun s => s a = some (.lk o ws kvs)) s1
    | _ => False)
  | _ => False
/-- the expression runs while the dict in slot i is locked -/
def qLockE (i : Nat) (te : TD) : TD := fun ε st Q => match ε[i]? with
  | some (some (.r a)) => (match st a with
    | some (.dT kvs) => ∀ o ws, te ε (up st a (.lk o ws kvs)) fun v s1 => s1 a = some (.lk o ws kvs) ∧ Q v (up s1 a (.dT kvs))
    | _ => False)
  | _ => False
/-- the statement runs while the dict in slot i is locked -/
def qLockS (i : Nat) (t : TDs) : TDs := fun D ε st => match ε[i]? with
  | some (some (.r a)) => (match st a with
    | some (.dT kvs) => ∀ o ws, t { nx := fun ε1 s1 => s1 a = some (.lk o ws kvs) ∧ D.nx ε1 (up s1 a (.dT kvs)), rt := fun x s1 => s1 a = some (.lk o ws kvs) ∧ D.rt x (up s1 a (.dT kvs)), bk := fun ε1 s1 => s1 a = some (.lk o ws kvs) ∧ D.bk ε1 (up s1 a (.dT kvs)), ct := fun ε1 s1 => s1 a = some (.lk o ws kvs) ∧ D.ct ε1 (up s1 a (.dT kvs)) } ε (up st a (.lk o ws kvs))
    | _ => False)
  | _ => False
end
end DL
end
section
set_option Elab.async false
set_option linter.all false
set_option maxRecDepth 100000
set_option maxHeartbeats 2000000
namespace L2.DX
open PySem PySem.Spec PyProof.Rows
end L2.DX
namespace DL
open PySem PySem.Spec L2 PyProof.Rows
variable [tB : Tb] [gR : Gr]
section
variable {P : Program} {w : World} {K : PySem.W.Frag} {mg : Str → Option Value} {base : Heap} {X : Cx} {N : List Str} {sc fs : Scope} {k : Nat}
/-- list(e.items()) -/
def qListItems (m : Bool) (te : TD) : TD := fun ε st Q => te ε st fun x s1 => match x with
  | .r a => (match s1 a with
    | some (.dT kvs) => BS.IntKeys kvs ∧ newL m (itemsD kvs) s1 Q
    | _ => False)
  | _ => False
end
end DL
end
section
set_option Elab.async false
set_option linter.all false
set_option maxRecDepth 100000
set_option maxHeartbeats 2000000
namespace DL
open PySem PySem.Spec L2 PyProof.Rows
variable [tB : Tb] [gR : Gr]
section
variable {P : Program} {w : World} {K : PySem.W.Frag} {mg : Str → Option Value} {base : Heap} {X : Cx} {N : List Str} {sc fs : Scope} {k : Nat}
/-- xs.pop() -/
def qPop (to : TD) : TD := fun ε st Q => to ε st fun x s1 => match x with
  | .r a => ∃ xs y, s1 a = some (.lst xs) ∧ xs[xs.length - 1]? = some y ∧ Q y (up s1 a (.lst xs.dropLast))
  | _ => False
def keyPD : Key → DV
  | .inl i => .d (.int i)
  | .inr s => .d (.str s)
/-- list(d), scalar keys -/
def qListDK (m : Bool) : RLD := fun xs st Q => match xs with
  | [.r a] => (match st a with
    | some (.dK kvs) => newL m (kvs.map fun kv => keyPD kv.1) st Q
    | _ => False)
  | _ => False
end
end DL
end
section
set_option Elab.async false
set_option linter.all false
set_option maxRecDepth 100000
set_option maxHeartbeats 2000000
namespace DL
open PySem PySem.Spec L2 PyProof.Rows
variable [tB : Tb] [gR : Gr]
section
variable {P : Program} {w : World} {K : PySem.W.Frag} {mg : Str → Option Value} {base : Heap} {X : Cx} {N : List Str} {sc fs : Scope} {k : Nat}
def maxOr (d : Int) : List Int → Int
  | [] => d
  | n :: r => r.foldl max n
/-- max(e, default=d) -/
def qMaxDf (te td : TD) : TD := fun ε st Q => te ε st fun x s1 => td ε s1 fun y s2 => match y, litems s2 x with
  | .d (.int d), some l => (match dints l with
    | some ns => Q (.d (.int (maxOr d ns))) s2
    | none => False)
  | _, _ => False
end
end DL
end
section
set_option Elab.async false
set_option linter.all false
set_option maxRecDepth 100000
namespace RD
open PySem L2 DL
/-- _law_begun(script, k) slots: 0=script 1=k 2=cells 3=great 4=seed 5=cell -/
def rd_law_begun : TDs :=
  (qSeq (qAsg (qOp (qAdd false) (qSl false (qv 0) (qPart (qv 1)) qNoPart) (qSl false (qv 0) qNoPart (qPart (qv 1)))) (qgN 2))
  (qSeq (qAsg (qLc false (qiSeq (qv 2)) (qgN 5) (qTest (qOp qGe (qv 5) (qOp qPow (qc (.d (.int 10))) (qc (.d (.int 18)))))) (qv 5) [5]) (qgN 3))
  (qSeq (qAsg (qOp (qAdd false) (qc (.d (.int 71))) (qv 1)) (qgN 4))
  (qSeq (qFor (qiSeq (qv 2)) (qgN 5) (qAsg (qOp qMod (qCB qIntC (qCons (qOp (qAdd false) (qOp (qMul false) (qv 4) (qc (.d (.int 48271)))) (qv 5)) qNil)) (qc (.d (.int 2147483647)))) (qgN 4)))
  (qRet (qDisp (("left", (qIf (qTest (qOp qNe (qv 3) (qLst false qNil))) (qOp qIx (qv 3) (qc (.d (.int 0)))) (qc (.d (.int 0))))) :: (("seed", (qv 4)) :: (("cells", (qOp (qAdd false) (qv 2) (qLst false (qCons (qOp (qAdd false) (qOp (qMul false) (qc (.d (.int 53))) (qv 1)) (qc (.d (.int 11)))) qNil)))) :: (("spot", (qc (.d (.int 0)))) :: []))))))))))
/-- _law_draw(m, below) slots: 0=m 1=below 2=found 3=spot 4=cells 5=extra 6=cell 7=blend -/
def rd_law_draw : TDs :=
  (qSeq (qIfS (qTest (qOp qGt (qOp qDGet (qv 0) (qc (.d (.str "left")))) (qc (.d (.int 0))))) (qSeq (qAsg (qOp qMod (qCB qIntC (qCons (qOp qDGet (qv 0) (qc (.d (.str "left")))) qNil)) (qv 1)) (qgN 2))
      (qSeq (qDPut (qv 0) (qc (.d (.str "left"))) (qOp qFdiv (qOp qDGet (qv 0) (qc (.d (.str "left")))) (qv 1)))
      (qRet (qv 2)))) qNext)
  (qSeq (qAsg (qOp qDGet (qv 0) (qc (.d (.str "spot")))) (qgN 3))
  (qSeq (qDPut (qv 0) (qc (.d (.str "spot"))) (qOp (qAdd false) (qv 3) (qc (.d (.int 1)))))
  (qSeq (qPar 4 5 (qCons (qOp qDGet (qv 0) (qc (.d (.str "cells")))) (qCons (qOp (qAdd false) (qOp qDGet (qv 0) (qc (.d (.str "seed")))) (qOp (qMul false) (qOp (qMul false) (qc (.d (.int 40503))) (qv 3)) (qv 3))) qNil)))
  (qSeq (qAsg (qOp qIx (qv 4) (qOp qMod (qCB qIntC (qCons (qv 3) qNil)) (qCB qLen (qCons (qv 4) qNil)))) (qgN 6))
  (qSeq (qAsg (qOp qMod (qCB qIntC (qCons (qOp (qAdd false) (qOp (qMul false) (qv 6) (qOp (qAdd false) (qOp (qMul false) (qc (.d (.int 2))) (qv 3)) (qc (.d (.int 3))))) (qv 5)) qNil)) (qc (.d (.int 2147483647)))) (qgN 7))
  (qSeq (qAsg (qOp qMod (qCB qIntC (qCons (qOp (qAdd false) (qOp (qAdd false) (qOp (qMul false) (qv 7) (qv 7)) (qOp (qMul false) (qc (.d (.int 69621))) (qv 3))) (qOp qDGet (qv 0) (qc (.d (.str "seed"))))) qNil)) (qc (.d (.int 2147483629)))) (qgN 7))
  (qRet (qOp qMod (qOp qFdiv (qOp qMod (qCB qIntC (qCons (qOp (qAdd false) (qOp (qMul false) (qv 7) (qc (.d (.int 48271)))) (qv 3)) qNil)) (qc (.d (.int 2147483647)))) (qc (.d (.int 11)))) (qv 1))))))))))
/-- degree_of(monomial) slots: 0=monomial -/
def rd_degree_of : TDs :=
  (qRet (qCB qSum (qCons (qv 0) qNil)))
/-- divides(a, b) slots: 0=a 1=b 2=one 3=other -/
def rd_divides : TDs :=
  (qSeq (qFor (qiZip (qCons (qv 0) (qCons (qv 1) qNil))) (qgT 2 (qgCons (qgN 2) (qgCons (qgN 3) qgNil))) (qIfS (qTest (qOp qGt (qv 2) (qv 3))) (qRet (qc (.d (.bool false)))) qNext))
  (qRet (qc (.d (.bool true)))))
/-- support_of(monomial) slots: 0=monomial 1=variable 2=exponent -/
def rd_support_of : TDs :=
  (qRet (qCB qTupleC (qCons (qLc false (qiEnum (qCons (qv 0) qNil)) (qgT 2 (qgCons (qgN 1) (qgCons (qgN 2) qgNil))) (qTest (qOp qGt (qv 2) (qc (.d (.int 0))))) (qv 1) [1, 2]) qNil)))
/-- _law_divides(a, b) slots: 0=a 1=b 2=k -/
def rd_law_divides : TDs :=
  (qRet (qOp qEq (qLc false (qiRng1 (qCons (qCB qLen (qCons (qv 0) qNil)) qNil)) (qgN 2) (qTest (qOp qGt (qOp qIx (qv 0) (qv 2)) (qOp qIx (qv 1) (qv 2)))) (qv 2) [2]) (qLst false qNil)))
/-- _law_least(monomials) slots: 0=monomials 1=some 2=a 3=b -/
def rd_law_least (sp_law_divides : SpD) : TDs :=
  (qSeq (qAsg (BS.qSortB false (qv 0)) (qgN 1))
  (qRet (qCB qTupleC (qCons (qLc false (qiSeq (qv 1)) (qgN 2) (qTest (qOp qEq (qLc false (qiSeq (qv 1)) (qgN 3) (qAndT (qTest (qOp qNe (qv 3) (qv 2))) (qTest (qCall sp_law_divides (qCons (qv 3) (qCons (qv 2) qNil))))) (qv 3) [3]) (qLst false qNil))) (qv 2) [2]) qNil))))
/-- _law_monomial(m, n, top) slots: 0=m 1=n 2=top 3=k -/
def rd_law_monomial (sp_law_draw : SpD) : TDs :=
  (qRet (qCB qTupleC (qCons (qLc false (qiRng1 (qCons (qv 1) qNil)) (qgN 3) qYes (qIf (qTest (qOp qGt (qCall sp_law_draw (qCons (qv 0) (qCons (qc (.d (.int 3))) qNil))) (qc (.d (.int 0))))) (qCall sp_law_draw (qCons (qv 0) (qCons (qOp (qAdd false) (qv 2) (qc (.d (.int 1)))) qNil))) (qc (.d (.int 0)))) [3]) qNil)))
/-- _law_ideal(m, n, count, top) slots: 0=m 1=n 2=count 3=top 4=some 5=k 6=a -/
def rd_law_ideal (sp_law_draw : SpD) (sp_law_monomial : SpD) (sp_law_least : SpD) : TDs :=
  (qSeq (qAsg (qLc false (qiRng1 (qCons (qCall sp_law_draw (qCons (qv 0) (qCons (qOp (qAdd false) (qv 2) (qc (.d (.int 1)))) qNil))) qNil)) (qgN 5) qYes (qCall sp_law_monomial (qCons (qv 0) (qCons (qv 1) (qCons (qv 3) qNil)))) [5]) (qgN 4))
  (qRet (qTup (qCons (qv 1) (qCons (qCall sp_law_least (qCons (qLc false (qiSeq (qv 4)) (qgN 6) (qTest (qOp qGt (qCB qSum (qCons (qv 6) qNil)) (qc (.d (.int 0))))) (qv 6) [6]) qNil)) qNil)))))
/-- least_ones(monomials) slots: 0=monomials 1=found 2=monomial 3=other -/
def rd_least_ones (sp_divides : SpD) : TDs :=
  (qSeq (qAsg (qLst true qNil) (qgN 1))
  (qSeq (qFor (qiSeq (BS.qSortB false (qv 0))) (qgN 2) (qIfS (qNotT (qTest (qCB qAny (qCons (qLc false (qiSeq (qv 1)) (qgN 3) qYes (qCall sp_divides (qCons (qv 3) (qCons (qv 2) qNil))) [3]) qNil)))) (qDrop (qAppend (qv 1) (qv 2))) qNext))
  (qRet (qv 1))))
/-- made(n, monomials) slots: 0=n 1=monomials 2=found 3=monomial -/
def rd_made (sp_least_ones : SpD) : TDs :=
  (qSeq (qAsg (qCall sp_least_ones (qCons (qv 1) qNil)) (qgN 2))
  (qSeq (qIfS (qTest (qOp qGt (qCB qLen (qCons (qv 2) qNil)) (qc (.d (.int 60))))) qNever qNext)
  (qSeq (qFor (qiSeq (qv 2)) (qgN 3) (qIfS (qTest (qOp qGt (qCB qMax1 (qCons (qv 3) qNil)) (qc (.d (.int 60))))) qNever qNext))
  (qRet (qTup (qCons (qv 0) (qCons (qCB qTupleC (qCons (qv 2) qNil)) qNil)))))))
/-- _law_in(generators, b) slots: 0=generators 1=b 2=a -/
def rd_law_in (sp_law_divides : SpD) : TDs :=
  (qRet (qOp qNe (qLc false (qiSeq (qv 0)) (qgN 2) (qTest (qCall sp_law_divides (qCons (qv 2) (qCons (qv 1) qNil)))) (qv 2) [2]) (qLst false qNil)))
/-- contains(ideal, monomial) slots: 0=ideal 1=monomial 2=generator -/
def rd_contains (sp_divides : SpD) : TDs :=
  (qRet (qCB qAny (qCons (qLc false (qiSeq (qOp qIx (qv 0) (qc (.d (.int 1))))) (qgN 2) qYes (qCall sp_divides (qCons (qv 2) (qCons (qv 1) qNil))) [2]) qNil)))
end RD
end
section
set_option Elab.async false
set_option linter.all false
set_option maxRecDepth 100000
set_option maxHeartbeats 1000000
namespace UC
open PySem L2 DL
def Sh (n : Nat) (d : PyData) : Prop := d.canLay0 = true ∧ d.depth ≤ n
theorem Sh.shaped {d : PyData} (h : Sh 64 d) : SeqAt.shaped d = true := by
  unfold SeqAt.shaped
  rw [h.1, decide_eq_true h.2]
  rfl
theorem Sh.mono {n m : Nat} {d : PyData} (h : Sh n d) (hm : n ≤ m) : Sh m d := ⟨h.1, Nat.le_trans h.2 hm⟩
theorem sh_int {n : Nat} {i : Int} : Sh n (.int i) := ⟨by simp [PyData.canLay0], by simp [PyData.depth]⟩
theorem sh_bool {n : Nat} {b : Bool} : Sh n (.bool b) := ⟨by simp [PyData.canLay0], by simp [PyData.depth]⟩
theorem canAll : ∀ {l : List PyData}, (∀ x ∈ l, x.canLay0 = true) → PyData.canLayAll0 l = true
  | [], _ => by simp [PyData.canLayAll0]
  | x :: r, h => by
    have h1 := h x List.mem_cons_self
    have h2 := canAll (l := r) fun y hy => h y (List.mem_cons_of_mem _ hy)
    simp [PyData.canLayAll0, h1, h2]
theorem depAll {n : Nat} : ∀ {l : List PyData}, (∀ x ∈ l, x.depth ≤ n) → PyData.depthAll l ≤ n
  | [], _ => by simp [PyData.depthAll]
  | x :: r, h => by
    have h1 := h x List.mem_cons_self
    have h2 := depAll (l := r) fun y hy => h y (List.mem_cons_of_mem _ hy)
    simp only [PyData.depthAll]
    omega
theorem sh_list {n : Nat} {l : List PyData} (h : ∀ x ∈ l, Sh n x) : Sh (n + 1) (.list l) := by
  have h1 := canAll fun x hx => (h x hx).1
  have h2 := depAll fun x hx => (h x hx).2
  exact ⟨by simp [PyData.canLay0, h1], by simp only [PyData.depth]; omega⟩
theorem sh_tuple {n : Nat} {l : List PyData} (h : ∀ x ∈ l, Sh n x) : Sh (n + 1) (.tuple l) := by
  have h1 := canAll fun x hx => (h x hx).1
  have h2 := depAll fun x hx => (h x hx).2
  exact ⟨by simp [PyData.canLay0, h1], by simp only [PyData.depth]; omega⟩
theorem forall_map {α : Type} {f : α → PyData} {l : List α} {p : PyData → Prop} (h : ∀ x ∈ l, p (f x)) : ∀ y ∈ l.map f, p y := fun y hy => by
  obtain ⟨x, hx, rfl⟩ := List.mem_map.mp hy
  exact h x hx
/-- a monomial, a tuple of monomials, a list of them -/
abbrev TI (a : List Int) : PyData := .tuple (a.map .int)
abbrev LI (a : List Int) : PyData := .list (a.map .int)
abbrev TT (l : List (List Int)) : PyData := .tuple (l.map TI)
abbrev LT (l : List (List Int)) : PyData := .list (l.map TI)
theorem sh_TI {n : Nat} {a : List Int} : Sh (n + 1) (TI a) := sh_tuple (forall_map fun _ _ => sh_int)
theorem sh_LI {n : Nat} {a : List Int} : Sh (n + 1) (LI a) := sh_list (forall_map fun _ _ => sh_int)
theorem sh_TT {n : Nat} {l : List (List Int)} : Sh (n + 2) (TT l) := sh_tuple (forall_map fun _ _ => sh_TI)
theorem sh_LT {n : Nat} {l : List (List Int)} : Sh (n + 2) (LT l) := sh_list (forall_map fun _ _ => sh_TI)
@[simp] theorem shaped_TI {a : List Int} : SeqAt.shaped (TI a) = true := (sh_TI (n := 63)).shaped
@[simp] theorem shaped_LI {a : List Int} : SeqAt.shaped (LI a) = true := (sh_LI (n := 63)).shaped
@[simp] theorem shaped_TT {a : List (List Int)} : SeqAt.shaped (TT a) = true := (sh_TT (n := 62)).shaped
@[simp] theorem shaped_LT {a : List (List Int)} : SeqAt.shaped (LT a) = true := (sh_LT (n := 62)).shaped
@[simp] theorem shaped_int {i : Int} : SeqAt.shaped (.int i) = true := (sh_int (n := 64)).shaped
@[simp] theorem shaped_bool {i : Bool} : SeqAt.shaped (.bool i) = true := (sh_bool (n := 64)).shaped
@[simp] theorem shaped_nilL : SeqAt.shaped (.list []) = true := by decide +kernel
@[simp] theorem shaped_nilT : SeqAt.shaped (.tuple []) = true := by decide +kernel
/-- a kind of data whose equality is that of what it tells -/
def EqK {α : Type} [DecidableEq α] (f : α → PyData) : Prop := ∀ x y, PyData.eqv (f x) (f y) = decide (x = y)
theorem eqk_int : EqK PyData.int := fun x y => by
  rw [PyData.eqv]
  by_cases h : x = y <;> simp [h]
theorem eqk_bool : EqK PyData.bool := fun x y => by
  rw [PyData.eqv]
  cases x <;> cases y <;> rfl
theorem eqvAll_map {α : Type} [DecidableEq α] {f : α → PyData} (h : EqK f) : ∀ xs ys : List α, PyData.eqvAll (xs.map f) (ys.map f) = decide (xs = ys)
  | [], [] => by simp [PyData.eqvAll]
  | [], y :: ys => by simp [PyData.eqvAll]
  | x :: xs, [] => by simp [PyData.eqvAll]
  | x :: xs, y :: ys => by
    rw [List.map_cons, List.map_cons, PyData.eqvAll, h x y, eqvAll_map h xs ys]
    by_cases h1 : x = y <;> by_cases h2 : xs = ys <;> simp [h1, h2]
theorem eqk_tuple {α : Type} [DecidableEq α] {f : α → PyData} (h : EqK f) : EqK fun l : List α => PyData.tuple (l.map f) := fun xs ys => by
  rw [PyData.eqv, eqvAll_map h]
theorem eqk_list {α : Type} [DecidableEq α] {f : α → PyData} (h : EqK f) : EqK fun l : List α => PyData.list (l.map f) := fun xs ys => by
  rw [PyData.eqv, eqvAll_map h]
@[simp] theorem eqv_int (x y : Int) : PyData.eqv (.int x) (.int y) = decide (x = y) := eqk_int x y
@[simp] theorem eqv_bool (x y : Bool) : PyData.eqv (.bool x) (.bool y) = decide (x = y) := eqk_bool x y
@[simp] theorem eqv_TI (x y : List Int) : PyData.eqv (TI x) (TI y) = decide (x = y) := eqk_tuple eqk_int x y
@[simp] theorem eqv_LI (x y : List Int) : PyData.eqv (LI x) (LI y) = decide (x = y) := eqk_list eqk_int x y
@[simp] theorem eqv_TT (x y : List (List Int)) : PyData.eqv (TT x) (TT y) = decide (x = y) := eqk_tuple (eqk_tuple eqk_int) x y
@[simp] theorem eqv_LT (x y : List (List Int)) : PyData.eqv (LT x) (LT y) = decide (x = y) := eqk_list (eqk_tuple eqk_int) x y
@[simp] theorem eqv_nilL {α : Type} (f : α → PyData) (x : List α) : PyData.eqv (.list (x.map f)) (.list []) = decide (x = []) := by
  cases x <;> simp [PyData.eqv, PyData.eqvAll]
@[simp] theorem eqv_nilT {α : Type} (f : α → PyData) (x : List α) : PyData.eqv (.tuple (x.map f)) (.tuple []) = decide (x = []) := by
  cases x <;> simp [PyData.eqv, PyData.eqvAll]
@[simp] theorem mkT_map (l : List PyData) : mkT (l.map .d) = .d (.tuple l) := by
  unfold mkT
  rw [datas_map]
@[simp] theorem mkT_2 (a b : PyData) : mkT [.d a, .d b] = .d (.tuple [a, b]) := rfl
@[simp] theorem mkT_3 (a b c : PyData) : mkT [.d a, .d b, .d c] = .d (.tuple [a, b, c]) := rfl
@[simp] theorem mkT_0 : mkT [] = .d (.tuple []) := rfl
@[simp] theorem mkT_1 (a : PyData) : mkT [.d a] = .d (.tuple [a]) := rfl
theorem sizeL : sizeLine = 16777216 := rfl
theorem fmod_range {i j : Int} (h : 0 < j) : 0 ≤ i.fmod j ∧ i.fmod j < j := by
  rw [Int.fmod_eq_emod_of_nonneg i (by omega)]
  exact ⟨Int.emod_nonneg _ (by omega), Int.emod_lt_of_pos _ h⟩
theorem cmul_l {i j : Int} (h1 : -(2 ^ 64) < i) (h2 : i < 2 ^ 64) : CMulA i j := .inl (.inl ⟨h1, h2⟩)
theorem cmul_r {i j : Int} (h1 : -(2 ^ 64) < j) (h2 : j < 2 ^ 64) : CMulA i j := .inl (.inr ⟨h1, h2⟩)
theorem cutD_len {α : Type} (xs : List α) (lo hi : Option Int) : (cutD xs lo hi).length ≤ xs.length := by
  unfold cutD
  rw [List.length_take, List.length_drop]
  omega
theorem dints_map2 (l : List Int) : dints ((l.map PyData.int).map DV.d) = some l := by
  rw [List.map_map]
  exact dints_map l
theorem dbools_map2 (l : List Bool) : dbools ((l.map PyData.bool).map DV.d) = some l := by
  rw [List.map_map]
  exact dbools_map l
theorem atI_map2 {α : Type} {f : α → PyData} {l : List α} {j : Nat} (h : j < l.length) : atI (List.map DV.d (List.map f l)) (j : Int) = some (.d (f l[j])) := atI_nat (by rw [List.getElem?_map, List.getElem?_map, List.getElem?_eq_getElem h]; rfl)
theorem comp_mapT {α : Type} (h : α → DV) (f : α → DV) {inv : Sto → Prop} {g : TDg} {te : TD} {ε : DL.Env} {Kc : List DV → Sto → Prop} {st : Sto} (hi : inv st) : ∀ (l : List α) (acc : List DV),
    (∀ p ∈ l, ∀ Q : DV → Sto → Prop, Q (f p) st → g (h p) ε st fun ε1 s1 => te ε1 s1 Q) → Kc (acc ++ l.map f) st → qComp inv g qYes te ε Kc (l.map h) acc st
  | [], acc, _, k => ⟨hi, by rw [List.map_nil, List.append_nil] at k; exact k⟩
  | x :: xs, acc, hx, k => by
    refine ⟨hi, ?_⟩
    refine hx x List.mem_cons_self (fun y s3 => qComp inv g qYes te ε Kc (xs.map h) (acc ++ [y]) s3) ?_
    exact comp_mapT h f hi xs (acc ++ [f x]) (fun y hy => hx y (List.mem_cons_of_mem _ hy)) (by rw [List.append_assoc]; exact k)
theorem comp_fmT {α : Type} (h : α → DV) (p : α → Bool) (f : α → DV) {inv : Sto → Prop} {g : TDg} {tt : TDt} {te : TD} {ε : DL.Env} {Kc : List DV → Sto → Prop} {st : Sto} (hi : inv st) : ∀ (l : List α) (acc : List DV),
    (∀ x ∈ l, ∀ (Q1 : DV → Sto → Prop) (Q2 : Sto → Prop), (if p x = true then Q1 (f x) st else Q2 st) → g (h x) ε st fun ε1 s1 => tt ε1 s1 fun b s2 => if b = true then te ε1 s2 Q1 else Q2 s2) → Kc (acc ++ (l.filter p).map f) st → qComp inv g tt te ε Kc (l.map h) acc st
  | [], acc, _, k => ⟨hi, by rw [List.filter_nil, List.map_nil, List.append_nil] at k; exact k⟩
  | x :: xs, acc, hx, k => by
    refine ⟨hi, ?_⟩
    refine hx x List.mem_cons_self (fun y s3 => qComp inv g tt te ε Kc (xs.map h) (acc ++ [y]) s3) (fun s2 => qComp inv g tt te ε Kc (xs.map h) acc s2) ?_
    cases e : p x with
    | true =>
      rw [if_pos rfl]
      refine comp_fmT h p f hi xs (acc ++ [f x]) (fun y hy => hx y (List.mem_cons_of_mem _ hy)) ?_
      rw [List.filter_cons, if_pos e, List.map_cons] at k
      rw [List.append_assoc]
      exact k
    | false =>
      rw [if_neg Bool.false_ne_true]
      refine comp_fmT h p f hi xs acc (fun y hy => hx y (List.mem_cons_of_mem _ hy)) ?_
      rw [List.filter_cons, if_neg (by rw [e]; exact Bool.false_ne_true)] at k
      exact k
/-- a for over typed items: i items gone -/
theorem for_byT {α : Type} (h : α → DV) {inv : Sto → Prop} {g : TDg} {tb : TDs} {D : EndsD} {l : List α} {ε : DL.Env} {st : Sto} (W : Nat → DL.Env → Sto → Prop) (h0 : W 0 ε st) (hi : ∀ i ε st, W i ε st → inv st)
    (hs : ∀ (i : Nat) (x : α) ε st, l[i]? = some x → W i ε st → ∀ L : DL.Env → Sto → Prop, (∀ ε' st', W (i + 1) ε' st' → L ε' st') → g (h x) ε st fun ε1 s1 => tb { D with nx := L, ct := L, bk := D.nx } ε1 s1) (hd : ∀ ε st, W l.length ε st → D.nx ε st) : qLoop inv g tb D (l.map h) ε st := by
  have : ∀ (r : List α) (i : Nat) ε st, l.drop i = r → i + r.length = l.length → W i ε st → qLoop inv g tb D (r.map h) ε st := by
    intro r
    induction r with
    | nil =>
      intro i ε st hdr hlen w
      have e : i = l.length := by simpa using hlen
      subst e
      exact ⟨hi _ _ _ w, hd _ _ w⟩
    | cons y r ih =>
      intro i ε st hdr hlen w
      have hx : l[i]? = some y := by
        have := congrArg (fun z => z[0]?) hdr
        simp only [List.getElem?_drop, List.getElem?_cons_zero, Nat.add_zero] at this
        exact this
      refine ⟨hi _ _ _ w, hs i y ε st hx w _ fun ε' st' w' => ?_⟩
      refine ih (i + 1) ε' st' ?_ (by simp only [List.length_cons] at hlen; omega) w'
      rw [← List.drop_drop, hdr]
      rfl
  exact this l 0 ε st rfl (by simp) h0
theorem fg_ret {Q : DV → Sto → Prop} {x : DV} {st : Sto} (h : Q x st) : Fg Q x st := ⟨st, Le.refl st, h⟩
theorem in_IT (neg : Bool) (i : Int) (a : List Int) (st : Sto) (Q : DV → Sto → Prop) : qIn neg (.d (.int i)) (.d (TI a)) st Q = Q (.d (.bool (if neg then !decide (i ∈ a) else decide (i ∈ a)))) st := qIn_IT neg i a st Q
theorem in_IL (neg : Bool) (i : Int) (a : List Int) (st : Sto) (Q : DV → Sto → Prop) : qIn neg (.d (.int i)) (.d (LI a)) st Q = Q (.d (.bool (if neg then !decide (i ∈ a) else decide (i ∈ a)))) st := qIn_IL neg i a st Q
theorem in_TT (neg : Bool) (a : List Int) (l : List (List Int)) (st : Sto) (Q : DV → Sto → Prop) : qIn neg (.d (TI a)) (.d (TT l)) st Q = Q (.d (.bool (if neg then !decide (a ∈ l) else decide (a ∈ l)))) st := qIn_TT neg a l st Q
theorem in_TL (neg : Bool) (a : List Int) (l : List (List Int)) (st : Sto) (Q : DV → Sto → Prop) : qIn neg (.d (TI a)) (.d (LT l)) st Q = Q (.d (.bool (if neg then !decide (a ∈ l) else decide (a ∈ l)))) st := qIn_TL neg a l st Q
theorem keyT_ints : ∀ a : List Int, keyT ((a.map PyData.int).map DV.d) = some (a.map Sum.inl)
  | [] => rfl
  | x :: a => by
    rw [List.map_cons, List.map_cons, keyT, keyT_ints a]
    rfl
theorem keyX_TI (a : List Int) : keyX (.d (TI a)) = some (a.map Sum.inl) := keyT_ints a
def tabD (l : List (List Int × DV)) : List (List Key × DV) := l.map fun p => (p.1.map Sum.inl, p.2)
theorem len_tab (l : List (List Int × DV)) : (tabD l).length = l.length := List.length_map ..
theorem inl_inj {a b : List Int} (h : (a.map Sum.inl : List Key) = b.map Sum.inl) : a = b := by
  have := congrArg (List.map BS.keyInt) h
  rw [BS.keyInts_inl, BS.keyInts_inl] at this
  exact this
theorem dec_inl (a b : List Int) : decide ((a.map Sum.inl : List Key) = b.map Sum.inl) = decide (a = b) := by
  rw [Bool.eq_iff_iff, decide_eq_true_eq, decide_eq_true_eq]
  exact ⟨inl_inj, fun h => by rw [h]⟩
def putT (l : List (List Int × DV)) (a : List Int) (v : DV) : List (List Int × DV) :=
  if (l.any fun p => decide (p.1 = a)) = true then l.map fun p => if p.1 = a then (p.1, v) else p else l ++ [(a, v)]
theorem put_tab (l : List (List Int × DV)) (a : List Int) (v : DV) : putD (tabD l) (a.map Sum.inl) v = tabD (putT l a v) := by
  unfold putD putT tabD
  rw [List.any_map]
  have e : ((fun kv : List Key × DV => decide (kv.1 = a.map Sum.inl)) ∘ fun p : List Int × DV => ((p.1.map Sum.inl : List Key), p.2)) = fun p : List Int × DV => decide (p.1 = a) := funext fun p => dec_inl p.1 a
  rw [e]
  split
  · rw [List.map_map, List.map_map]
    refine List.map_congr_left fun p _ => ?_
    show (if (p.1.map Sum.inl : List Key) = a.map Sum.inl then _ else _) = _
    by_cases h : p.1 = a
    · rw [if_pos (by rw [h])]
      show _ = ((if p.1 = a then (p.1, v) else p).1.map Sum.inl, (if p.1 = a then (p.1, v) else p).2)
      rw [if_pos h]
    · rw [if_neg fun z => h (inl_inj z)]
      show _ = ((if p.1 = a then (p.1, v) else p).1.map Sum.inl, (if p.1 = a then (p.1, v) else p).2)
      rw [if_neg h]
  · rw [List.map_append]
    rfl
theorem dput_tab (l : List (List Int × DV)) (a : List Int) (v : DV) (h : l.length < sizeLine) : dput (some (.dT (tabD l))) (.d (TI a)) v = some (.dT (tabD (putT l a v))) := by
  show (match titems (.d (TI a)) with | some ys => (match keyT ys with | some q => if (tabD l).length < sizeLine then some (MO.dT (putD (tabD l) q v)) else none | none => none) | none => none) = _
  rw [show titems (.d (TI a)) = some ((a.map PyData.int).map DV.d) from rfl]
  show (match keyT ((a.map PyData.int).map DV.d) with | some q => if (tabD l).length < sizeLine then some (MO.dT (putD (tabD l) q v)) else none | none => none) = _
  rw [keyT_ints]
  show (if (tabD l).length < sizeLine then some (MO.dT (putD (tabD l) (a.map Sum.inl) v)) else none) = _
  rw [len_tab, if_pos h, put_tab]
end UC
end
section
set_option Elab.async false
set_option linter.all false
set_option maxRecDepth 100000
set_option maxHeartbeats 1000000
open PySem L2 DL
local macro_rules | `(tactic| walk_at "E") => `(tactic| (try simp only [qAsg, qRet, qDrop, qIfS, qTest, qAndT, qOrT, qNotT, qAndV, qOrV, qNotV, qIf, qOp, qUn, qChain, onB, qv, qc, qgN, qgT, qgCons, qgNil, qCons, qNil, qTup, qLst, qPar, qPar3, qAug, qCB, qCall, qLen, qTupleC, qListC, qMax2, qMin2, qIntC, qSum, qAny, qAll, qIsi, tyName, qAdd, qSub, qMul, qFdiv, qMod, qPow, qI2, qCmpI, qEq, qNe, qLt, qLe, qGt, qGe, qNeg, qIx, qDGet, qDIn, qDPut, qSl, qPart, qNoPart, qNext, qFor, qiSeq, qiRng1, qiRng2, qiZip, qiEnum, qLc, seqSrc, lsrc, titems, litems, sitems, fz, newL, List.getElem?_cons_zero, List.getElem?_cons_succ, List.set_cons_zero, List.set_cons_succ, if_true, if_false, Bool.false_eq_true, ite_true, ite_false, up_same, reduceIte, decide_true, decide_false, true_and, and_true]))
namespace UC
open PySem L2 DL RD
abbrev I (i : Int) : DV := .d (.int i)
abbrev Bo (b : Bool) : DV := .d (.bool b)
def mkM (left seed : Int) (cells : List Int) (spot : Int) : MO := .dK [(.inr "left", I left), (.inr "seed", I seed), (.inr "cells", .d (.list (cells.map .int))), (.inr "spot", I spot)]
def DrawSt (st : Sto) (a : Addr) (B : Nat) : Prop := ∃ (left seed : Int) (cells : List Int) (spot : Int), st a = some (mkM left seed cells spot) ∧ cells ≠ [] ∧ 0 ≤ spot ∧ spot ≤ B
theorem DrawSt.mono {st : Sto} {a : Addr} {B B' : Nat} (h : DrawSt st a B) (hb : B ≤ B') : DrawSt st a B' := by
  obtain ⟨l, s, c, p, h1, h2, h3, h4⟩ := h
  exact ⟨l, s, c, p, h1, h2, h3, by omega⟩
theorem look_left {l s : Int} {c : List Int} {p : Int} : dlook (some (mkM l s c p)) (.d (.str "left")) = some (some (I l)) := by rfl
theorem look_seed {l s : Int} {c : List Int} {p : Int} : dlook (some (mkM l s c p)) (.d (.str "seed")) = some (some (I s)) := by rfl
theorem look_cells {l s : Int} {c : List Int} {p : Int} : dlook (some (mkM l s c p)) (.d (.str "cells")) = some (some (.d (.list (c.map .int)))) := by rfl
theorem look_spot {l s : Int} {c : List Int} {p : Int} : dlook (some (mkM l s c p)) (.d (.str "spot")) = some (some (I p)) := by rfl
theorem put_left {l s l' : Int} {c : List Int} {p : Int} : dput (some (mkM l s c p)) (.d (.str "left")) (I l') = some (mkM l' s c p) := by rfl
theorem put_spot {l s p' : Int} {c : List Int} {p : Int} : dput (some (mkM l s c p)) (.d (.str "spot")) (I p') = some (mkM l s c p') := by rfl
def sp_law_draw : SpD := fun xs st Q => ∃ (a : Addr) (below : Int) (B : Nat), xs = [.r a, I below] ∧ 1 ≤ below ∧ below < 2 ^ 30 ∧ B < 2 ^ 50 ∧ DrawSt st a B ∧
  ∀ (v : Int) st', 0 ≤ v → v < below → DrawSt st' a (B + 1) → (∀ b, b ≠ a → st' b = st b) → Q (I v) st'
theorem sem_law_draw : ∀ xs st Q, sp_law_draw xs st Q → rd_law_draw { nx := fun _ st' => Fg Q (.d .none) st', rt := Fg Q } (startD 8 xs) st := by
  rintro xs st Q ⟨a, below, B, rfl, h1, h2, hB, ⟨left, seed, cells, spot, hm, hc, hs0, hsB⟩, k⟩
  have e0 : startD 8 [.r a, I below] = [some (.r a), some (I below), none, none, none, none, none, none] := rfl
  rw [e0]
  unfold rd_law_draw
  refine seq fun N hN => ?_
  walk_at "E"
  simp only [hm, look_left]
  walk_at "E"
  by_cases hl : 0 < left
  · simp only [hl, decide_true, if_true]
    refine seq fun N1 hN1 => ?_
    walk_at "E"
    simp only [hm, look_left]
    walk_at "E"
    refine ⟨by omega, hN1 _ _ ?_⟩
    refine seq fun N2 hN2 => ?_
    walk_at "E"
    simp only [hm, look_left, put_left]
    walk_at "E"
    refine ⟨.inl ⟨by omega, by omega⟩, hN2 _ _ ?_⟩
    walk_at "E"
    obtain ⟨r1, r2⟩ := fmod_range (i := left) (j := below) (by omega)
    exact ⟨_, Le.refl _, k _ _ r1 r2 ⟨_, seed, cells, spot, up_same, hc, hs0, by omega⟩ fun b hb => up_ne hb⟩
  · simp only [hl, decide_false]
    walk_at "E"
    refine hN _ _ ?_
    clear hN N
    refine seq fun N hN => ?_
    walk_at "E"
    simp only [hm, look_spot]
    refine hN _ _ ?_
    clear hN N
    refine seq fun N hN => ?_
    walk_at "E"
    simp only [hm, put_spot]
    walk_at "E"
    refine hN _ _ ?_
    clear hN N
    refine seq fun N hN => ?_
    walk_at "E"
    simp only [up_same, look_cells, look_seed]
    walk_at "E"
    refine ⟨cmul_l (by omega) (by omega), cmul_r (by omega) (by omega), hN _ _ ?_⟩
    clear hN N
    have hlen : 0 < cells.length := List.length_pos_iff.mpr hc
    obtain ⟨j, hj, hjl⟩ : ∃ j : Nat, spot.fmod (cells.length : Int) = (j : Int) ∧ j < cells.length := by
      obtain ⟨r1, r2⟩ := fmod_range (i := spot) (j := (cells.length : Int)) (by omega)
      exact ⟨(spot.fmod (cells.length : Int)).toNat, by omega, by omega⟩
    refine seq fun N hN => ?_
    walk_at "E"
    simp only [List.length_map, hj, atI_map2 hjl]
    refine ⟨by omega, hN _ _ ?_⟩
    clear hN N
    refine seq fun N hN => ?_
    walk_at "E"
    refine ⟨cmul_l (by omega) (by omega), cmul_r (by omega) (by omega), by omega, hN _ _ ?_⟩
    clear hN N
    generalize hb1 : (cells[j] * (2 * spot + 3) + (seed + 40503 * spot * spot)).fmod 2147483647 = b1
    obtain ⟨r1, r2⟩ := fmod_range (i := cells[j] * (2 * spot + 3) + (seed + 40503 * spot * spot)) (j := 2147483647) (by omega)
    rw [hb1] at r1 r2
    refine seq fun N hN => ?_
    walk_at "E"
    simp only [up_same, look_seed]
    walk_at "E"
    refine ⟨cmul_l (by omega) (by omega), cmul_l (by omega) (by omega), by omega, hN _ _ ?_⟩
    clear hN N
    generalize hb2 : (b1 * b1 + 69621 * spot + seed).fmod 2147483629 = b2
    obtain ⟨r3, r4⟩ := fmod_range (i := b1 * b1 + 69621 * spot + seed) (j := 2147483629) (by omega)
    rw [hb2] at r3 r4
    walk_at "E"
    refine ⟨cmul_l (by omega) (by omega), by omega, .inl ⟨by omega, by omega⟩, by omega, ?_⟩
    obtain ⟨r5, r6⟩ := fmod_range (i := (((b2 * 48271 + spot).fmod 2147483647).fdiv 11)) (j := below) (by omega)
    exact ⟨_, Le.refl _, k _ _ r5 r6 ⟨left, seed, cells, spot + 1, up_same, hc, by omega, by omega⟩ fun b hb => up_ne hb⟩
theorem len_law_draw : ∀ xs st Q, sp_law_draw xs st Q → xs.length = 2 := by
  rintro xs st Q ⟨a, below, B, rfl, _⟩
  rfl
/-- the cells of a turn -/
def sp_law_begun : SpD := fun xs st Q => ∃ (ns : List Int) (k : Int), xs = [.d (.list (ns.map .int)), I k] ∧ ns.length ≤ 63 ∧ 0 ≤ k ∧ k < 2 ^ 40 ∧
  ∀ p st', st p = none → DrawSt st' p 0 → (∀ b, b ≠ p → st' b = st b) → Q (.r p) st'
theorem len_law_begun : ∀ xs st Q, sp_law_begun xs st Q → xs.length = 2 := by
  rintro xs st Q ⟨ns, k, rfl, _⟩
  rfl
theorem sem_law_begun : ∀ xs st Q, sp_law_begun xs st Q → rd_law_begun { nx := fun _ st' => Fg Q (.d .none) st', rt := Fg Q } (startD 6 xs) st := by
  rintro xs st Q ⟨ns, k, rfl, h1, h2, h3, K⟩
  have e0 : startD 6 [.d (.list (ns.map .int)), I k] = [some (.d (.list (ns.map .int))), some (I k), none, none, none, none] := rfl
  rw [e0]
  unfold rd_law_begun
  refine seq fun N hN => ?_
  walk_at "E"
  simp only [cutD_map, datas_map, ← List.map_append]
  walk_at "E"
  generalize hcs : (cutD ns (some k) none ++ cutD ns none (some k)) = cs
  have hl : cs.length ≤ 126 := by
    rw [← hcs, List.length_append]
    have a := cutD_len ns (some k) none
    have b := cutD_len ns none (some k)
    omega
  have hl2 : (List.map PyData.int (cutD ns (some k) none)).length + (List.map PyData.int (cutD ns none (some k))).length ≤ sizeLine := by
    have a := cutD_len ns (some k) none
    have b := cutD_len ns none (some k)
    rw [List.length_map, List.length_map, sizeL]
    omega
  simp only [List.length_map] at hl2 ⊢
  refine ⟨hl2, hN _ _ ?_⟩
  clear hN N
  -- great
  refine seq fun N hN => ?_
  walk_at "E"
  refine ⟨by simp only [List.length_map, sizeL]; omega, ?_⟩
  refine comp_fm (fun x => match x with | .d (.int i) => decide (10 ^ 18 ≤ i) | _ => false) id trivial _ _ ?_ ?_
  · intro x hx Q1 Q2 h
    rw [List.mem_map] at hx
    obtain ⟨y, hy, rfl⟩ := hx
    rw [List.mem_map] at hy
    obtain ⟨i, hi, rfl⟩ := hy
    simp only [wipeD]
    walk_at "E"
    simp only [id] at h
    simp only [CPow]
    exact ⟨by decide, h⟩
  · obtain ⟨gs, hgs⟩ : ∃ gs : List Int, (([] : List DV) ++ ((cs.map PyData.int).map DV.d |>.filter (fun x => match x with | .d (.int i) => decide (10 ^ 18 ≤ i) | _ => false)).map id) = (gs.map PyData.int).map DV.d := by
      refine ⟨cs.filter fun i => decide (10 ^ 18 ≤ i), ?_⟩
      rw [List.nil_append, List.map_id, List.map_map, List.map_map, List.filter_map]
      rfl
    rw [hgs]
    simp only [newL, datas_map]
    refine hN _ _ ?_
    clear hN N
    refine seq fun N hN => ?_
    walk_at "E"
    refine hN _ _ ?_
    clear hN N
    -- the seed
    refine seq fun N hN => ?_
    walk_at "E"
    refine for_by (fun _ ε s => s = st ∧ ∃ (seed : Int) (x : Option DV), 0 ≤ seed ∧ seed < 2 ^ 50 ∧ ε = [some (.d (.list (ns.map .int))), some (I k), some (.d (.list (cs.map .int))), some (.d (.list (gs.map .int))), some (I seed), x]) ⟨rfl, 71 + k, none, by omega, by omega, rfl⟩ (fun _ _ _ _ => trivial) ?_ ?_
    · rintro x ys ε s hx ⟨rfl, seed, y, s1, s2, rfl⟩ L hL
      rw [List.mem_map] at hx
      obtain ⟨z, hz, rfl⟩ := hx
      rw [List.mem_map] at hz
      obtain ⟨i, hi, rfl⟩ := hz
      walk_at "E"
      obtain ⟨r1, r2⟩ := fmod_range (i := seed * 48271 + i) (j := 2147483647) (by omega)
      exact ⟨cmul_l (by omega) (by omega), by omega, hL _ _ ⟨rfl, _, _, r1, by omega, rfl⟩⟩
    · rintro ε s ⟨rfl, seed, y, s1, s2, rfl⟩
      refine hN _ _ ?_
      clear hN N
      simp only [qRet, qDisp, qPairs]
      walk_at "E"
      have fin : ∀ l0 : Int, (∀ p, s p = none → Fg Q (.r p) (up s p (mkM l0 seed (cs ++ [53 * k + 11]) 0))) := fun l0 p hp =>
        ⟨_, Le.refl _, K p _ hp ⟨l0, seed, _, 0, up_same, by simp, by omega, by omega⟩ fun b hb => up_ne hb⟩
      have e1 : datas [DV.d (PyData.int (53 * k + 11))] = some [PyData.int (53 * k + 11)] := rfl
      have e2 : (List.map DV.d (List.map PyData.int cs) ++ List.map DV.d [PyData.int (53 * k + 11)]) = List.map DV.d (List.map PyData.int (cs ++ [53 * k + 11])) := by simp
      have e3 : datas [] = some [] := rfl
      simp only [e1, e2, e3, datas_map, eqv_nilL, shaped_nilL, shaped_LI, List.length_map, List.length_nil, List.length_singleton, true_and]
      refine ⟨by decide, ?_⟩
      by_cases hg : gs = []
      · simp only [hg, decide_true, Bool.not_true, Bool.false_eq_true, if_false]
        exact ⟨cmul_l (by omega) (by omega), by decide, by rw [sizeL]; omega, show 4 ≤ 15 by decide, fin 0⟩
      · simp only [hg, decide_false, Bool.not_false, if_true]
        cases gs with
        | nil => exact absurd rfl hg
        | cons g0 gr =>
          have e4 : atI (List.map DV.d (List.map PyData.int (g0 :: gr))) 0 = some (.d (.int g0)) := atI_map2 (j := 0) (by simp)
          simp only [e4]
          exact ⟨cmul_l (by omega) (by omega), by decide, by rw [sizeL]; omega, show 4 ≤ 15 by decide, fin g0⟩
end UC
end
section
set_option Elab.async false
set_option linter.all false
set_option maxRecDepth 100000
set_option maxHeartbeats 1000000
namespace UC
open PySem L2 DL RD
theorem draw {st : Sto} {a : Addr} {B : Nat} {below : Int} {Q : DV → Sto → Prop} (D : DrawSt st a B) (h1 : 1 ≤ below) (h2 : below < 2 ^ 30) (hB : B < 2 ^ 50)
    (k : ∀ (v : Int) st', 0 ≤ v → v < below → DrawSt st' a (B + 1) → (∀ b, b ≠ a → st' b = st b) → Q (I v) st') : sp_law_draw [.r a, I below] st Q := ⟨a, below, B, rfl, h1, h2, hB, D, k⟩
theorem begun {st : Sto} {ns : List Int} {k : Int} {Q : DV → Sto → Prop} (h1 : ns.length ≤ 63) (h2 : 0 ≤ k) (h3 : k < 2 ^ 40) (K : ∀ p st', DrawSt st' p 0 → (∀ b, b ≠ p → st' b = st b) → Q (.r p) st') : sp_law_begun [.d (.list (ns.map .int)), I k] st Q := ⟨ns, k, rfl, h1, h2, h3, fun p st' _ => K p st'⟩
/-- a comprehension whose elements draw, with the index -/
theorem comp_wordI {α : Type} (h : α → DV) {inv : Sto → Prop} {g : TDg} {te : TD} {ε : DL.Env} {Kc : List DV → Sto → Prop} (W : Nat → List DV → Sto → Prop) (hi : ∀ i acc st, W i acc st → inv st) (l : List α) (st : Sto) (w0 : W 0 [] st)
    (hx : ∀ i p acc st, l[i]? = some p → W i acc st → ∀ Q : DV → Sto → Prop, (∀ y s, W (i + 1) (acc ++ [y]) s → Q y s) → g (h p) ε st fun ε1 s1 => te ε1 s1 Q) (k : ∀ acc st, W l.length acc st → Kc acc st) : qComp inv g qYes te ε Kc (l.map h) [] st := by
  have : ∀ (r : List α) (i : Nat) acc st, l.drop i = r → i + r.length = l.length → W i acc st → qComp inv g qYes te ε Kc (r.map h) acc st := by
    intro r
    induction r with
    | nil =>
      intro i acc st hdr hlen w
      have e : i = l.length := by simpa using hlen
      subst e
      exact ⟨hi _ _ _ w, k _ _ w⟩
    | cons y r ih =>
      intro i acc st hdr hlen w
      have hx' : l[i]? = some y := by
        have := congrArg (fun z => z[0]?) hdr
        simp only [List.getElem?_drop, List.getElem?_cons_zero, Nat.add_zero] at this
        exact this
      refine ⟨hi _ _ _ w, ?_⟩
      refine hx i y acc st hx' w (fun z s3 => qComp inv g qYes te ε Kc (r.map h) (acc ++ [z]) s3) fun z s w' => ?_
      refine ih (i + 1) (acc ++ [z]) s ?_ (by simp only [List.length_cons] at hlen; omega) w'
      rw [← List.drop_drop, hdr]
      rfl
  exact this l 0 [] st rfl (by simp) w0
theorem range_some {n i p : Nat} (h : (List.range n)[i]? = some p) : p = i ∧ i < n := by
  by_cases hlt : i < n
  · rw [List.getElem?_range hlt] at h
    cases h
    exact ⟨rfl, hlt⟩
  · rw [List.getElem?_eq_none (by rw [List.length_range]; omega)] at h
    cases h
theorem kitB_tt : kitB "tuple" "tuple" = some true := by decide +kernel
theorem kitB_ll : kitB "list" "list" = some true := by decide +kernel
theorem kitB_dd : kitB "dict" "dict" = some true := by decide +kernel
theorem kitB_bb : kitB "bool" "bool" = some true := by decide +kernel
theorem kitB_ib : kitB "int" "bool" = some false := by decide +kernel
theorem kitB_ii : kitB "int" "int" = some true := by decide +kernel
theorem kitB_ss : kitB "str" "str" = some true := by decide +kernel
theorem kitB_tl : kitB "tuple" "list" = some false := by decide +kernel
theorem kitB_lt : kitB "list" "tuple" = some false := by decide +kernel
/-- reading of a cell -/
def gd (a : List Int) (j : Nat) : Int := a.getD j 0
theorem gd_eq {a : List Int} {j : Nat} (h : j < a.length) : a[j] = gd a j := by
  unfold gd
  rw [List.getD_eq_getElem?_getD, List.getElem?_eq_getElem h]
  rfl
theorem atI_gd {a : List Int} {j : Nat} (h : j < a.length) : atI (List.map DV.d (List.map PyData.int a)) (j : Int) = some (I (gd a j)) := by
  rw [atI_map2 (f := PyData.int) h, gd_eq h]
theorem range_gd (a : List Int) : (List.range a.length).map (gd a) = a := by
  refine List.ext_getElem (by simp) fun i h1 h2 => ?_
  rw [List.getElem_map, List.getElem_range, gd_eq h2]
theorem range_zw {f : Int → Int → Int} {a b : List Int} {n : Nat} (ha : a.length = n) (hb : b.length = n) : (List.range n).map (fun j => f (gd a j) (gd b j)) = List.zipWith f a b := by
  refine List.ext_getElem (by simp; omega) fun i h1 h2 => ?_
  rw [List.getElem_map, List.getElem_range, List.getElem_zipWith, gd_eq, gd_eq]
theorem zip_range {a b : List Int} {n : Nat} (ha : a.length = n) (hb : b.length = n) : a.zip b = (List.range n).map fun j => (gd a j, gd b j) := by
  refine List.ext_getElem (by simp; omega) fun i h1 h2 => ?_
  rw [List.getElem_map, List.getElem_range, List.getElem_zip, gd_eq, gd_eq]
theorem zipIdx_range (a : List Int) : a.zipIdx = (List.range a.length).map fun j => (gd a j, j) := by
  refine List.ext_getElem (by simp) fun i h1 h2 => ?_
  rw [List.getElem_map, List.getElem_range, List.getElem_zipIdx, Nat.zero_add, gd_eq]
theorem gd_mem {a : List Int} {j : Nat} (h : j < a.length) : gd a j ∈ a := by
  rw [← gd_eq h]
  exact List.getElem_mem h
theorem rngD0 (n : Nat) : rngD 0 n = (List.range n).map fun (j : Nat) => I (j : Int) := by
  unfold rngD
  refine List.map_congr_left fun j _ => ?_
  rw [Int.zero_add]
theorem gd_ext {a b : List Int} {n : Nat} (ha : a.length = n) (hb : b.length = n) : a = b ↔ ∀ j < n, gd a j = gd b j := by
  constructor
  · rintro rfl j hj
    rfl
  · intro h
    rw [← range_gd a, ← range_gd b, ha, hb]
    exact List.map_congr_left fun j hj => h j (List.mem_range.mp hj)
theorem gd_zw {f : Int → Int → Int} {a b : List Int} {n j : Nat} (ha : a.length = n) (hb : b.length = n) (hj : j < n) : gd (List.zipWith f a b) j = f (gd a j) (gd b j) := by
  rw [← gd_eq (by rw [List.length_zipWith]; omega), List.getElem_zipWith, gd_eq, gd_eq]
theorem gd_rep {n j : Nat} {x : Int} (hj : j < n) : gd (List.replicate n x) j = x := by
  rw [← gd_eq (by rw [List.length_replicate]; exact hj), List.getElem_replicate]
theorem len_zw {f : Int → Int → Int} {a b : List Int} {n : Nat} (ha : a.length = n) (hb : b.length = n) : (List.zipWith f a b).length = n := by
  rw [List.length_zipWith]; omega
theorem filter_nil {α : Type} {l : List α} {p : α → Bool} : l.filter p = [] ↔ ∀ x ∈ l, p x = false := by
  rw [List.filter_eq_nil_iff]
  constructor
  · intro h x hx
    exact Bool.eq_false_iff.mpr (h x hx)
  · intro h x hx e
    rw [h x hx] at e
    cases e
theorem bool_dec {b : Bool} {p : Prop} [Decidable p] (h : b = true ↔ p) : b = decide p := by
  cases b with
  | true => exact (decide_eq_true (h.mp rfl)).symm
  | false => exact (decide_eq_false fun hp => Bool.false_ne_true (h.mpr hp)).symm
theorem flat_rep {α : Type} (n : Nat) (x : α) : (List.replicate n [x]).flatten = List.replicate n x := by
  induction n with
  | zero => rfl
  | succ n ih => rw [List.replicate_succ, List.flatten_cons, ih]; rfl
theorem rep_I (n : Nat) (x : Int) : mkT (List.replicate n [I x]).flatten = .d (TI (List.replicate n x)) := by
  rw [flat_rep, ← List.map_replicate (f := I), show (List.map I (List.replicate n x)) = (List.map PyData.int (List.replicate n x)).map DV.d by rw [List.map_map]; rfl, mkT_map]
theorem turns (l : Nat) (m M : Int) (h : 0 ≤ m) (hM : m ≤ M) : ∃ t : Nat, (if (if M < (l : Int) then M else (l : Int)) > m then (if M < (l : Int) then M else (l : Int)) else m) = (t : Int) ∧ (t : Int) ≤ M := by
  refine ⟨(if (if M < (l : Int) then M else (l : Int)) > m then (if M < (l : Int) then M else (l : Int)) else m).toNat, ?_, ?_⟩ <;> split <;> split <;> omega
theorem le_size4 : (0 + 1 + 1 + 1 + 1 ≤ sizeLine) = True := by decide
theorem I_eq (i : Int) : I i = .d (.int i) := rfl
theorem Bo_eq (i : Bool) : Bo i = .d (.bool i) := rfl
theorem ints_dv {α : Type} (f : α → Int) (l : List α) : List.map (fun x => I (f x)) l = ((l.map f).map PyData.int).map DV.d := by
  rw [List.map_map, List.map_map]
  rfl
theorem ints_dv0 {α : Type} (f : α → Int) (l : List α) : [] ++ List.map (fun x => I (f x)) l = ((l.map f).map PyData.int).map DV.d := by
  rw [List.nil_append, ints_dv]
end UC
end
section
set_option Elab.async false
set_option linter.all false
set_option maxRecDepth 100000
set_option maxHeartbeats 1000000
namespace UC
open PySem L2 DL RD
def divB (a b : List Int) : Bool := (a.zip b).all fun p => decide (p.1 ≤ p.2)
def lcmL (a b : List Int) : List Int := List.zipWith max a b
def mulL (a b : List Int) : List Int := List.zipWith (· + ·) a b
def cutL (a b : List Int) : List Int := List.zipWith (fun x y => max (x - y) 0) a b
/-- a monomial of n variables, its exponents at most w -/
def Mon (n : Nat) (w : Int) (a : List Int) : Prop := a.length = n ∧ ∀ x ∈ a, 0 ≤ x ∧ x ≤ w
theorem Mon.mono {n : Nat} {w w' : Int} {a : List Int} (h : Mon n w a) (hw : w ≤ w') : Mon n w' a := ⟨h.1, fun x hx => ⟨(h.2 x hx).1, Int.le_trans (h.2 x hx).2 hw⟩⟩
theorem Mon.bd {n : Nat} {w : Int} {a : List Int} (h : Mon n w a) : TS.Bd (w + 1) a := fun x hx => ⟨(h.2 x hx).1, by have := (h.2 x hx).2; omega⟩
theorem divB_iff {a b : List Int} {n : Nat} (ha : a.length = n) (hb : b.length = n) : divB a b = true ↔ ∀ j < n, gd a j ≤ gd b j := by
  unfold divB
  rw [zip_range ha hb, List.all_eq_true]
  constructor
  · intro h j hj
    exact of_decide_eq_true (h _ (List.mem_map.mpr ⟨j, List.mem_range.mpr hj, rfl⟩))
  · intro h x hx
    obtain ⟨j, hj, rfl⟩ := List.mem_map.mp hx
    exact decide_eq_true (h j (List.mem_range.mp hj))
theorem divB_refl (a : List Int) : divB a a = true := (divB_iff rfl rfl).mpr fun j _ => Int.le_refl _
theorem divB_trans {a b c : List Int} {n : Nat} (ha : a.length = n) (hb : b.length = n) (hc : c.length = n) (h1 : divB a b = true) (h2 : divB b c = true) : divB a c = true :=
  (divB_iff ha hc).mpr fun j hj => Int.le_trans ((divB_iff ha hb).mp h1 j hj) ((divB_iff hb hc).mp h2 j hj)
theorem divB_anti {a b : List Int} {n : Nat} (ha : a.length = n) (hb : b.length = n) (h1 : divB a b = true) (h2 : divB b a = true) : a = b :=
  (gd_ext ha hb).mpr fun j hj => Int.le_antisymm ((divB_iff ha hb).mp h1 j hj) ((divB_iff hb ha).mp h2 j hj)
theorem divB_lex : ∀ {a b : List Int}, a.length = b.length → divB a b = true → a = b ∨ lexL a b = true
  | [], [], _, _ => .inl rfl
  | x :: a, y :: b, hl, h => by
    simp only [divB, List.zip_cons_cons, List.all_cons, Bool.and_eq_true, decide_eq_true_eq] at h
    have hl' : a.length = b.length := by simpa using hl
    simp only [lexL, Bool.or_eq_true, Bool.and_eq_true, decide_eq_true_eq, List.cons.injEq]
    by_cases e : x = y
    · rcases divB_lex hl' h.2 with k | k
      · exact .inl ⟨e, k⟩
      · exact .inr (.inr ⟨e, k⟩)
    · exact .inr (.inl (by omega))
/-- those that no other one divides, sorted -/
def minL (S : List (List Int)) : List (List Int) := (sortU S).filter fun a => decide ((sortU S).filter (fun b => decide (b ≠ a) && divB b a) = [])
def stepL (acc : List (List Int)) (m : List Int) : List (List Int) := if (acc.map fun o => divB o m).any id = true then acc else acc ++ [m]
structure Mins (S R : List (List Int)) : Prop where
  ris : RisL R
  sub : ∀ r ∈ R, r ∈ S
  cov : ∀ s ∈ S, ∃ r ∈ R, divB r s = true
  anti : ∀ r ∈ R, ∀ r' ∈ R, divB r r' = true → r = r'
theorem mins_minL {S : List (List Int)} {n : Nat} (hS : ∀ s ∈ S, s.length = n) : Mins S (minL S) := by
  have hq : ∀ s ∈ sortU S, s.length = n := fun s hs => hS s (mem_sortU.mp hs)
  refine ⟨(ris_sortU S).sublist List.filter_sublist, fun r hr => mem_sortU.mp (List.mem_filter.mp hr).1, fun s hs => ?_, fun r hr r' hr' h => ?_⟩
  · have hT : RisL ((sortU S).filter fun b => divB b s) := (ris_sortU S).sublist List.filter_sublist
    have hs' : s ∈ (sortU S).filter fun b => divB b s := List.mem_filter.mpr ⟨mem_sortU.mpr hs, divB_refl s⟩
    cases e : (sortU S).filter (fun b => divB b s) with
    | nil => rw [e] at hs'; cases hs'
    | cons r T =>
      have hr : r ∈ (sortU S).filter fun b => divB b s := by rw [e]; exact List.mem_cons_self
      obtain ⟨r1, r2⟩ := List.mem_filter.mp hr
      refine ⟨r, List.mem_filter.mpr ⟨r1, decide_eq_true ?_⟩, r2⟩
      rw [List.filter_eq_nil_iff]
      intro b hb hh
      simp only [Bool.and_eq_true, decide_eq_true_eq] at hh
      have hb2 : b ∈ (sortU S).filter fun b => divB b s := List.mem_filter.mpr ⟨hb, divB_trans (hq b hb) (hq r r1) (hS s hs) hh.2 r2⟩
      rw [e] at hb2 hT
      rcases List.mem_cons.mp hb2 with z | z
      · exact hh.1 z
      · have k1 := (List.pairwise_cons.mp hT).1 b z
        rcases divB_lex ((hq b hb).trans (hq r r1).symm) hh.2 with k | k
        · exact hh.1 k
        · have := lexL_tr k1 k
          rw [lexL_irr] at this
          cases this
  · obtain ⟨a1, a2⟩ := List.mem_filter.mp hr
    obtain ⟨b1, b2⟩ := List.mem_filter.mp hr'
    have := List.filter_eq_nil_iff.mp (of_decide_eq_true b2) r a1
    simp only [Bool.and_eq_true, decide_eq_true_eq, not_and] at this
    exact Classical.byContradiction fun hne => this hne h
theorem mins_fold {n : Nat} : ∀ (post acc pre : List (List Int)), RisL (pre ++ post) → (∀ s ∈ pre ++ post, s.length = n) → Mins pre acc → Mins (pre ++ post) (post.foldl stepL acc)
  | [], acc, pre, _, _, h => by rw [List.append_nil]; exact h
  | m :: post, acc, pre, hr, hl, h => by
    have e : pre ++ m :: post = (pre ++ [m]) ++ post := by simp
    have hm : m.length = n := hl m (by simp)
    rw [e] at hr hl ⊢
    refine mins_fold post (stepL acc m) (pre ++ [m]) hr hl ?_
    have hlex : ∀ r ∈ acc, lexL r m = true := fun r hr' => by
      have := (List.pairwise_append.mp hr).1
      exact (List.pairwise_append.mp this).2.2 r (h.sub r hr') m (List.mem_singleton.mpr rfl)
    have hla : ∀ r ∈ acc, r.length = n := fun r hr' => hl r (List.mem_append_left _ (List.mem_append_left _ (h.sub r hr')))
    unfold stepL
    by_cases ha : (acc.map fun o => divB o m).any id = true
    · rw [if_pos ha]
      refine ⟨h.ris, fun r hr' => List.mem_append_left _ (h.sub r hr'), fun s hs => ?_, h.anti⟩
      rcases List.mem_append.mp hs with hs | hs
      · exact h.cov s hs
      · rw [List.mem_singleton.mp hs]
        obtain ⟨b, hb, hb2⟩ := List.any_eq_true.mp ha
        obtain ⟨r, hr', rfl⟩ := List.mem_map.mp hb
        exact ⟨r, hr', hb2⟩
    · rw [if_neg ha]
      have hno : ∀ r ∈ acc, divB r m = false := fun r hr' => Bool.eq_false_iff.mpr fun z => ha (List.any_eq_true.mpr ⟨true, List.mem_map.mpr ⟨r, hr', z⟩, rfl⟩)
      refine ⟨List.pairwise_append.mpr ⟨h.ris, List.pairwise_singleton _ _, fun a ha b hb => by rw [List.mem_singleton.mp hb]; exact hlex a ha⟩, fun r hr' => ?_, fun s hs => ?_, fun r hr' r' hr'' hd => ?_⟩
      · rcases List.mem_append.mp hr' with z | z
        · exact List.mem_append_left _ (h.sub r z)
        · exact List.mem_append_right _ z
      · rcases List.mem_append.mp hs with hs | hs
        · obtain ⟨r, h1, h2⟩ := h.cov s hs
          exact ⟨r, List.mem_append_left _ h1, h2⟩
        · exact ⟨s, List.mem_append_right _ hs, divB_refl s⟩
      · rcases List.mem_append.mp hr' with z | z <;> rcases List.mem_append.mp hr'' with z' | z'
        · exact h.anti r z r' z' hd
        · rw [List.mem_singleton.mp z', hno r z] at hd
          cases hd
        · have zz := List.mem_singleton.mp z
          subst zz
          rcases divB_lex (hm.trans (hla r' z').symm) hd with k | k
          · exact k
          · have := lexL_tr k (hlex r' z')
            rw [lexL_irr] at this
            cases this
        · rw [List.mem_singleton.mp z, List.mem_singleton.mp z']
theorem mins_uniq {S R S' R' : List (List Int)} {n : Nat} (hS : ∀ s ∈ S, s.length = n) (hS' : ∀ s ∈ S', s.length = n) (h : Mins S R) (h' : Mins S' R') (c : ∀ s ∈ S, ∃ s' ∈ S', divB s' s = true) (c' : ∀ s ∈ S', ∃ s' ∈ S, divB s' s = true) : R = R' := by
  have key : ∀ {S R S' R' : List (List Int)}, (∀ s ∈ S, s.length = n) → (∀ s ∈ S', s.length = n) → Mins S R → Mins S' R' → (∀ s ∈ S, ∃ s' ∈ S', divB s' s = true) → (∀ s ∈ S', ∃ s' ∈ S, divB s' s = true) → ∀ r ∈ R, r ∈ R' := by
    intro S R S' R' hS hS' h h' c c' r hr
    obtain ⟨s', hs', d1⟩ := c r (h.sub r hr)
    obtain ⟨r', hr', d2⟩ := h'.cov s' hs'
    obtain ⟨s, hs, d3⟩ := c' r' (h'.sub r' hr')
    obtain ⟨q, hq, d4⟩ := h.cov s hs
    have lr := hS r (h.sub r hr)
    have ls' := hS' s' hs'
    have lr' := hS' r' (h'.sub r' hr')
    have ls := hS s hs
    have lq := hS q (h.sub q hq)
    have d5 : divB q r' = true := divB_trans lq ls lr' d4 d3
    have d6 : divB r' r = true := divB_trans lr' ls' lr d2 d1
    have e : q = r := h.anti q hq r hr (divB_trans lq lr' lr d5 d6)
    subst e
    rw [divB_anti lr lr' d5 d6]
    exact hr'
  exact ris_eq h.ris h'.ris fun x => ⟨key hS hS' h h' c c' x, key hS' hS h' h c' c x⟩
theorem fold_min {S : List (List Int)} {n : Nat} (hS : ∀ s ∈ S, s.length = n) : (sortU S).foldl stepL [] = minL S := by
  have hq : ∀ s ∈ sortU S, s.length = n := fun s hs => hS s (mem_sortU.mp hs)
  have h := mins_fold (n := n) (sortU S) [] [] (ris_sortU S) hq ⟨List.Pairwise.nil, (fun r hr => nomatch hr), (fun s hs => nomatch hs), (fun r hr => nomatch hr)⟩
  exact mins_uniq hq hS h (mins_minL hS) (fun s hs => ⟨s, mem_sortU.mp hs, divB_refl s⟩) fun s hs => ⟨s, mem_sortU.mpr hs, divB_refl s⟩
theorem min_cong {S S' : List (List Int)} {n : Nat} (hS : ∀ s ∈ S, s.length = n) (hS' : ∀ s ∈ S', s.length = n) (c : ∀ s ∈ S, ∃ s' ∈ S', divB s' s = true) (c' : ∀ s ∈ S', ∃ s' ∈ S, divB s' s = true) : minL S = minL S' := mins_uniq hS hS' (mins_minL hS) (mins_minL hS') c c'
theorem min_sub {S : List (List Int)} : ∀ r ∈ minL S, r ∈ S := fun r hr => mem_sortU.mp (List.mem_filter.mp hr).1
theorem min_idem {S : List (List Int)} {n : Nat} (hS : ∀ s ∈ S, s.length = n) : minL (minL S) = minL S :=
  min_cong (fun s hs => hS s (min_sub s hs)) hS (fun s hs => ⟨s, min_sub s hs, divB_refl s⟩) (mins_minL hS).cov
theorem min_len (S : List (List Int)) : (minL S).length ≤ S.length := Nat.le_trans (List.length_filter_le _ _) (sortU_len S)
def inL (L : List (List Int)) (c : List Int) : Bool := L.any fun g => divB g c
theorem inL_iff {L : List (List Int)} {c : List Int} : inL L c = true ↔ ∃ g ∈ L, divB g c = true := List.any_eq_true
theorem in_min {S : List (List Int)} {n : Nat} {c : List Int} (hS : ∀ s ∈ S, s.length = n) (hc : c.length = n) : inL (minL S) c = true ↔ ∃ g ∈ S, divB g c = true := by
  rw [inL_iff]
  constructor
  · rintro ⟨g, h1, h2⟩
    exact ⟨g, min_sub g h1, h2⟩
  · rintro ⟨g, h1, h2⟩
    obtain ⟨r, h3, h4⟩ := (mins_minL hS).cov g h1
    exact ⟨r, h3, divB_trans (hS r (min_sub r h3)) (hS g h1) hc h4 h2⟩
theorem tints_TI (ts : List (List Int)) : tints ((ts.map TI).map DV.d) = some ts := tints_map ts
theorem dv_TI (l : List (List Int)) : (l.map fun a => DV.d (.tuple (a.map .int))) = (l.map TI).map DV.d := by
  rw [List.map_map]
  rfl
theorem tis_dv0 (l : List (List Int)) : [] ++ (l.map fun a => DV.d (TI a)) = (l.map TI).map DV.d := dv_TI l
theorem atI_0 {α : Type} (x : α) (l : List α) : atI (x :: l) 0 = some x := atI_nat (j := 0) rfl
theorem atI_1 {α : Type} (x y : α) (l : List α) : atI (x :: y :: l) 1 = some y := atI_nat (j := 1) rfl
theorem atI_2 {α : Type} (x y z : α) (l : List α) : atI (x :: y :: z :: l) 2 = some z := atI_nat (j := 2) rfl
theorem mk_app (a b : List PyData) : mkT (a.map .d ++ b.map .d) = .d (.tuple (a ++ b)) := by
  rw [← List.map_append, mkT_map]
theorem mk_appT (a b : List (List Int)) : mkT ((a.map TI).map .d ++ (b.map TI).map .d) = .d (TT (a ++ b)) := by
  rw [mk_app, ← List.map_append]
theorem mk_snocI (a : List Int) (k : Int) : mkT ((a.map PyData.int).map .d ++ [.d (.int k)]) = .d (TI (a ++ [k])) := by
  have := mk_app (a.map .int) [.int k]
  rw [show TI (a ++ [k]) = .tuple (a.map .int ++ [.int k]) by simp [TI], ← this]
  rfl
@[reducible] def idl (n : Nat) (l : List (List Int)) : PyData := .tuple [.int n, TT l]
theorem size_of {n m : Nat} (h : n ≤ m) (hm : m ≤ 100000) : n ≤ sizeLine := by rw [sizeL]; omega
theorem sitems_le {st st' : Sto} {x : DV} {l : List DV} (h : sitems st x = some l) (hl : Le st st') : sitems st' x = some l := by
  cases x with
  | d z => cases z <;> exact h
  | t ys => exact h
  | r a =>
    simp only [sitems, titems, litems] at h ⊢
    cases e : st a with
    | none => rw [e] at h; cases h
    | some m => rw [hl a m e]; rw [e] at h; exact h
theorem le_up {st st' : Sto} {p : Addr} (h0 : st p = none) (h : ∀ b, b ≠ p → st' b = st b) : Le st st' := fun a m e => by
  rw [h a (fun z => by rw [z, h0] at e; cases e)]
  exact e
theorem le_up1 {st : Sto} {p : Addr} {m : MO} (h0 : st p = none) : Le st (up st p m) := le_up h0 fun b hb => up_ne hb
theorem src_of2 {st : Sto} {x : DV} {l : List DV} (h : sitems st x = some l) : ∃ inv : Sto → Prop, seqSrc st x = some (l, inv) ∧ ∀ s', sitems s' x = some l → inv s' := by
  cases x with
  | d z =>
    cases z with
    | tuple ds => cases h; exact ⟨_, rfl, fun _ _ => trivial⟩
    | list ds => cases h; exact ⟨_, rfl, fun _ _ => trivial⟩
    | _ => cases h
  | t ys => cases h; exact ⟨_, rfl, fun _ _ => trivial⟩
  | r a =>
    have key : ∀ s', sitems s' (.r a) = some l → s' a = some (.lst l) := fun s' h => by
      simp only [sitems, titems, litems] at h
      cases e : s' a with
      | none => rw [e] at h; cases h
      | some m =>
        rw [e] at h
        cases m with
        | lst xs => cases h; rfl
        | _ => cases h
    exact ⟨fun s' => s' a = some (.lst l), by simp only [seqSrc, titems, lsrc, key st h], key⟩
theorem fg_le {Q : DV → Sto → Prop} {x : DV} {st st' : Sto} (hl : Le st st') (h : Q x st) : Fg Q x st' := ⟨st, hl, h⟩
def boxL (tops : List Int) : List (List Int) := tops.foldl (fun F t => F.flatMap fun a => (List.range (t + 1).toNat).map fun (k : Nat) => a ++ [(k : Int)]) [[]]
theorem gd_app_l {a b : List Int} {j : Nat} (h : j < a.length) : gd (a ++ b) j = gd a j := by
  unfold gd
  rw [List.getD_eq_getElem?_getD, List.getD_eq_getElem?_getD, List.getElem?_append_left h]
theorem gd_app_one {a : List Int} {x : Int} : gd (a ++ [x]) a.length = x := by
  unfold gd
  rw [List.getD_eq_getElem?_getD, List.getElem?_append_right (Nat.le_refl _), Nat.sub_self]
  rfl
theorem mem_boxL {tops c : List Int} : c ∈ boxL tops ↔ c.length = tops.length ∧ ∀ j < tops.length, 0 ≤ gd c j ∧ gd c j ≤ gd tops j := by
  unfold boxL
  have key : ∀ (ts pre : List Int) (F : List (List Int)), (∀ c, c ∈ F ↔ c.length = pre.length ∧ ∀ j < pre.length, 0 ≤ gd c j ∧ gd c j ≤ gd pre j) →
      ∀ c, c ∈ ts.foldl (fun F t => F.flatMap fun a => (List.range (t + 1).toNat).map fun (k : Nat) => a ++ [(k : Int)]) F ↔ c.length = (pre ++ ts).length ∧ ∀ j < (pre ++ ts).length, 0 ≤ gd c j ∧ gd c j ≤ gd (pre ++ ts) j := by
    intro ts
    induction ts with
    | nil => intro pre F h c; rw [List.append_nil]; exact h c
    | cons t ts ih =>
      intro pre F h c
      have e : pre ++ t :: ts = (pre ++ [t]) ++ ts := by simp
      rw [e, List.foldl_cons]
      refine ih (pre ++ [t]) _ (fun d => ?_) c
      rw [List.mem_flatMap]
      constructor
      · rintro ⟨a, ha, hd⟩
        obtain ⟨k, hk, rfl⟩ := List.mem_map.mp hd
        rw [List.mem_range] at hk
        obtain ⟨h1, h2⟩ := (h a).mp ha
        refine ⟨by simp [h1], fun j hj => ?_⟩
        by_cases z : j < pre.length
        · rw [gd_app_l (by omega), gd_app_l z]
          exact h2 j z
        · have : j = pre.length := by simp at hj; omega
          subst this
          rw [gd_app_one, ← h1, gd_app_one]
          omega
      · rintro ⟨h1, h2⟩
        rw [List.length_append, List.length_singleton] at h1 h2
        have hd : d = d.take pre.length ++ [gd d pre.length] := by
          refine List.ext_getElem? fun i => ?_
          by_cases z : i < pre.length
          · rw [List.getElem?_append_left (by simp; omega), List.getElem?_take_of_lt z]
          · by_cases y : i = pre.length
            · subst y
              rw [List.getElem?_append_right (by rw [List.length_take]; omega), List.length_take, Nat.min_eq_left (by omega), Nat.sub_self, List.getElem?_eq_getElem (by omega), gd_eq (by omega)]
              rfl
            · rw [List.getElem?_eq_none (by omega), List.getElem?_eq_none (by simp; omega)]
        refine ⟨d.take pre.length, (h _).mpr ⟨by simp; omega, fun j hj => ?_⟩, ?_⟩
        · have := h2 j (by omega)
          rw [gd_app_l hj] at this
          have e3 : gd (d.take pre.length) j = gd d j := by
            unfold gd
            rw [List.getD_eq_getElem?_getD, List.getD_eq_getElem?_getD, List.getElem?_take_of_lt hj]
          rw [e3]
          exact this
        · have := h2 pre.length (by omega)
          rw [gd_app_one] at this
          refine List.mem_map.mpr ⟨(gd d pre.length).toNat, List.mem_range.mpr (by omega), ?_⟩
          rw [show (((gd d pre.length).toNat : Nat) : Int) = gd d pre.length by omega]
          exact hd.symm
  have := key tops [] [[]] (fun c => by simp) c
  simpa using this
theorem box_len : ∀ (tops : List Int) (w : Nat), (∀ t ∈ tops, (t + 1).toNat ≤ w) → (boxL tops).length ≤ w ^ tops.length := by
  intro tops w h
  unfold boxL
  have key : ∀ (ts : List Int) (F : List (List Int)) (k : Nat), (∀ t ∈ ts, (t + 1).toNat ≤ w) → F.length ≤ w ^ k → (ts.foldl (fun F t => F.flatMap fun a => (List.range (t + 1).toNat).map fun (k : Nat) => a ++ [(k : Int)]) F).length ≤ w ^ (k + ts.length) := by
    intro ts
    induction ts with
    | nil => intro F k _ hF; exact hF
    | cons t ts ih =>
      intro F k ht hF
      rw [List.foldl_cons, List.length_cons, show k + (ts.length + 1) = (k + 1) + ts.length by omega]
      refine ih _ (k + 1) (fun x hx => ht x (List.mem_cons_of_mem _ hx)) ?_
      have : ∀ F : List (List Int), (F.flatMap fun a => (List.range (t + 1).toNat).map fun (k : Nat) => a ++ [(k : Int)]).length = F.length * (t + 1).toNat := by
        intro F
        induction F with
        | nil => simp
        | cons a F ih => rw [List.flatMap_cons, List.length_append, ih, List.length_map, List.length_range, List.length_cons, Nat.succ_mul, Nat.add_comm]
      rw [this, Nat.pow_succ]
      exact Nat.mul_le_mul hF (ht t List.mem_cons_self)
  have := key tops [[]] 0 h (by simp)
  simpa using this
end UC
end
section
set_option Elab.async false
set_option linter.all false
set_option maxRecDepth 100000
set_option maxHeartbeats 1000000
open PySem L2 DL
local macro_rules | `(tactic| walk_at "E") => `(tactic| (try simp only [qAsg, qRet, qDrop, qIfS, qTest, qAndT, qOrT, qNotT, qAndV, qOrV, qNotV, qIf, qOp, qUn, qChain, onB, qv, qc, qgN, qgT, qgCons, qgNil, qCons, qNil, qTup, qLst, qPar, qPar3, qAug, qCB, qCall, qLen, qTupleC, qListC, qMax2, qMin2, qIntC, qSum, qAny, qAll, qIsi, tyName, qAdd, qSub, qMul, qFdiv, qMod, qPow, qI2, qCmpI, qEq, qNe, qLt, qLe, qGt, qGe, qNeg, qIx, qDGet, qDIn, qDPut, qSl, qPart, qNoPart, qNext, qFor, qiSeq, qiRng1, qiRng2, qiZip, qiEnum, qLc, seqSrc, lsrc, titems, litems, sitems, fz, newL, List.getElem?_cons_zero, List.getElem?_cons_succ, List.set_cons_zero, List.set_cons_succ, if_true, if_false, Bool.false_eq_true, ite_true, ite_false, up_same, reduceIte, decide_true, decide_false, true_and, and_true]))
namespace UC
open PySem L2 DL RD
def suppL (a : List Int) : List Int := (a.zipIdx.filter fun p => decide (0 < p.1)).map fun p => (p.2 : Int)
def sp_degree_of : SpD := fun xs st Q => ∃ a : List Int, xs = [.d (TI a)] ∧ Q (I a.sum) st
def sp_support_of : SpD := fun xs st Q => ∃ a : List Int, xs = [.d (TI a)] ∧ a.length ≤ 1000 ∧ Q (.d (TI (suppL a))) st
def sp_divides : SpD := fun xs st Q => ∃ a b : List Int, xs = [.d (TI a), .d (TI b)] ∧ Q (Bo (divB a b)) st
theorem len_degree_of : ∀ xs st Q, sp_degree_of xs st Q → xs.length = 1 := by rintro xs st Q ⟨a, rfl, _⟩; rfl
theorem len_support_of : ∀ xs st Q, sp_support_of xs st Q → xs.length = 1 := by rintro xs st Q ⟨a, rfl, _⟩; rfl
theorem len_divides : ∀ xs st Q, sp_divides xs st Q → xs.length = 2 := by rintro xs st Q ⟨a, b, rfl, _⟩; rfl
theorem sem_degree_of : ∀ xs st Q, sp_degree_of xs st Q → rd_degree_of { nx := fun _ st' => Fg Q (.d .none) st', rt := Fg Q } (startD 1 xs) st := by
  rintro xs st Q ⟨a, rfl, K⟩
  have e0 : startD 1 [.d (TI a)] = [some (.d (TI a))] := rfl
  rw [e0]
  unfold rd_degree_of
  walk_at "E"
  simp only [dints_map2]
  exact fg_ret K
/-- the items of a zip of two monomials -/
theorem zipD_ints : ∀ a b : List Int, zipD ((a.map PyData.int).map DV.d) ((b.map PyData.int).map DV.d) = (a.zip b).map fun p => DV.d (.tuple [.int p.1, .int p.2])
  | [], _ => rfl
  | _ :: _, [] => rfl
  | x :: a, y :: b => by
    have ih := zipD_ints a b
    unfold zipD at ih ⊢
    rw [List.map_cons, List.map_cons, List.map_cons, List.map_cons, List.zipWith_cons_cons, ih, List.zip_cons_cons, List.map_cons]
    rfl
theorem enumD_ints (f : Int → PyData) : ∀ (a : List Int), enumD ((a.map f).map DV.d) = a.zipIdx.map fun p => DV.d (.tuple [.int p.2, f p.1]) := by
  intro a
  unfold enumD
  rw [List.map_map, List.mapIdx_eq_zipIdx_map, List.zipIdx_map, List.map_map]
  rfl
theorem sem_support_of : ∀ xs st Q, sp_support_of xs st Q → rd_support_of { nx := fun _ st' => Fg Q (.d .none) st', rt := Fg Q } (startD 3 xs) st := by
  rintro xs st Q ⟨a, rfl, hl, K⟩
  have e0 : startD 3 [.d (TI a)] = [some (.d (TI a)), none, none] := rfl
  rw [e0]
  unfold rd_support_of
  walk_at "E"
  rw [enumD_ints]
  refine ⟨by rw [List.length_map, List.length_zipIdx, sizeL]; omega, ?_⟩
  refine comp_fmT _ (fun p : Int × Nat => decide (0 < p.1)) (fun p => I (p.2 : Int)) trivial _ _ ?_ ?_
  · intro p hp Q1 Q2 h
    simp only [wipeD]
    walk_at "E"
    simp only [List.map_cons, List.map_nil, List.length_cons, List.length_nil]
    walk_at "E"
    by_cases h0 : 0 < p.1
    · simp only [h0, decide_true, if_true] at h ⊢
      walk_at "E"
      exact h
    · simp only [h0, decide_false] at h ⊢
      exact h
  · have e1 : [] ++ ((a.zipIdx.filter fun p => decide (0 < p.1)).map fun p => I (p.2 : Int)) = ((suppL a).map PyData.int).map DV.d := by
      unfold suppL
      rw [List.nil_append, List.map_map, List.map_map]
      rfl
    rw [e1]
    simp only [datas_map]
    walk_at "E"
    rw [mkT_map]
    exact fg_ret K
theorem sem_divides : ∀ xs st Q, sp_divides xs st Q → rd_divides { nx := fun _ st' => Fg Q (.d .none) st', rt := Fg Q } (startD 4 xs) st := by
  rintro xs st Q ⟨a, b, rfl, K⟩
  have e0 : startD 4 [.d (TI a), .d (TI b)] = [some (.d (TI a)), some (.d (TI b)), none, none] := rfl
  rw [e0]
  unfold rd_divides
  refine seq fun N hN => ?_
  walk_at "E"
  rw [zipD_ints]
  refine for_byT _ (fun i ε s => s = st ∧ (((a.zip b).take i).all fun p => decide (p.1 ≤ p.2)) = true ∧ ∃ x y, ε = [some (.d (TI a)), some (.d (TI b)), x, y]) ⟨rfl, rfl, _, _, rfl⟩ (fun _ _ _ _ => trivial) ?_ ?_
  · rintro i p ε s hp ⟨rfl, ha, x, y, rfl⟩ L hL
    walk_at "E"
    simp only [List.map_cons, List.map_nil, List.length_cons, List.length_nil]
    walk_at "E"
    by_cases h : p.2 < p.1
    · simp only [h, decide_true, if_true]
      refine fg_ret ?_
      have e : divB a b = false := by
        unfold divB
        rw [List.all_eq_false]
        exact ⟨p, List.mem_of_getElem? hp, by simp; omega⟩
      rw [e] at K
      exact K
    · simp only [h, decide_false]
      walk_at "E"
      refine hL _ _ ⟨rfl, ?_, _, _, rfl⟩
      rw [List.take_succ, hp, List.all_append, ha]
      simp
      omega
  · rintro ε s ⟨rfl, ha, x, y, rfl⟩
    refine hN _ _ ?_
    walk_at "E"
    refine fg_ret ?_
    rw [List.take_length] at ha
    have e : divB a b = true := ha
    rw [e] at K
    exact K
theorem div_none {a b : List Int} {n : Nat} (ha : a.length = n) (hb : b.length = n) : divB a b = decide ((List.range n).filter (fun j => decide (gd b j < gd a j)) = []) := bool_dec <| by
  rw [divB_iff ha hb, filter_nil]
  constructor
  · intro h j hj
    exact decide_eq_false (by have := h j (List.mem_range.mp hj); omega)
  · intro h j hj
    have := of_decide_eq_false (h j (List.mem_range.mpr hj))
    omega
end UC
end
section
set_option Elab.async false
set_option linter.all false
set_option maxRecDepth 100000
set_option maxHeartbeats 1000000
open PySem L2 DL RD UC
local macro_rules | `(tactic| walk_at "E") => `(tactic| (try simp only [qAsg, qRet, qDrop, qIfS, qTest, qAndT, qOrT, qNotT, qAndV, qOrV, qNotV, qIf, qOp, qUn, qChain, onB, qv, qc, qgN, qgT, qgCons, qgNil, qCons, qNil, qTup, qLst, qPar, qPar3, qAug, qCB, qCall, qLen, qTupleC, qListC, qMax2, qMin2, qIntC, qSum, qAny, qAll, qIsi, tyName, qAdd, qSub, qMul, qFdiv, qMod, qPow, qI2, qCmpI, qEq, qNe, qLt, qLe, qGt, qGe, qNeg, qIx, qDGet, qDIn, qDPut, qSl, qPart, qNoPart, qNext, qFor, qiSeq, qiRng1, qiRng2, qiZip, qiEnum, qLc, seqSrc, lsrc, titems, litems, sitems, fz, newL, List.getElem?_cons_zero, List.getElem?_cons_succ, List.set_cons_zero, List.set_cons_succ, if_true, if_false, Bool.false_eq_true, ite_true, ite_false, up_same, reduceIte, decide_true, decide_false, true_and, and_true]))
local macro_rules | `(tactic| walk_at "D") => `(tactic| (try simp only [qAsg, qRet, qDrop, qIfS, qTest, qAndT, qOrT, qNotT, qAndV, qOrV, qNotV, qIf, qOp, qUn, qChain, onB, qv, qc, qgN, qgT, qgCons, qgNil, qCons, qNil, qTup, qLst, qPar, qPar3, qAug, qCB, qCall, qLen, qTupleC, qListC, qMax2, qMin2, qIntC, qSum, qAny, qAll, qIsi, tyName, qAdd, qSub, qMul, qFdiv, qMod, qPow, qI2, qCmpI, qEq, qNe, qLt, qLe, qGt, qGe, qNeg, qIx, qDGet, qDIn, qDPut, qSl, qPart, qNoPart, qNext, qFor, qiSeq, qiRng1, qiRng2, qiZip, qiEnum, qLc, seqSrc, lsrc, titems, litems, sitems, fz, newL, List.getElem?_cons_zero, List.getElem?_cons_succ, List.set_cons_zero, List.set_cons_succ, if_true, if_false, Bool.false_eq_true, ite_true, ite_false, up_same, reduceIte, decide_true, decide_false, true_and, and_true, eqv_int, eqv_bool, eqv_TI, eqv_LI, eqv_TT, eqv_LT, eqv_nilL, eqv_nilT, shaped_TI, shaped_LI, shaped_TT, shaped_LT, shaped_int, shaped_bool, shaped_nilL, shaped_nilT, dints_map2, dbools_map2, datas_map, mkT_map, mkT_0, mkT_1, mkT_2, mkT_3, List.length_map, List.length_cons, List.length_nil, List.length_append, List.map_cons, List.map_nil, wipeD, Bool.not_true, Bool.not_false, eq_self, not_true_eq_false, not_false_eq_true, kitB_tt, kitB_ll, kitB_dd, kitB_bb, kitB_ib, kitB_ii, kitB_ss, kitB_tl, kitB_lt, Function.comp, datas, Option.map_some, List.cons_append, List.nil_append, CPow, le_size4, Int.toNat_natCast, rngD0, I_eq, Bo_eq, BS.qSortB, in_IT, in_IL, in_TT, in_TL, qNotN, qIsN, qSortD, qListRg, qDispT, keyX_TI, qGet, qiItems, qLockE, qLockS, qPop, qMaxDf, qLc2, qMax1, qMin1, qAppend, qExtend, tints_TI, dv_TI, Option.bind_some, qRetN, atI_0, atI_1, atI_2, mk_appT, mk_snocI, idl, rep_I, Option.map_none, qComb, qGcd]))
local macro_rules | `(tactic| walk_at "F") => `(tactic| (try simp only [qAsg, qRet, qDrop, qIfS, qTest, qAndT, qOrT, qNotT, qAndV, qOrV, qNotV, qIf, qOp, qUn, qChain, onB, qv, qc, qgN, qgT, qgCons, qgNil, qCons, qNil, qTup, qLst, qPar, qPar3, qAug, qCB, qCall, qLen, qTupleC, qListC, qMax2, qMin2, qIntC, qSum, qAny, qAll, qIsi, tyName, qAdd, qSub, qMul, qFdiv, qMod, qPow, qI2, qCmpI, qEq, qNe, qLt, qLe, qGt, qGe, qNeg, qIx, qDGet, qDIn, qDPut, qSl, qPart, qNoPart, qNext, qFor, qiRng1, qiRng2, qiZip, qiEnum, qLc, fz, newL, List.getElem?_cons_zero, List.getElem?_cons_succ, List.set_cons_zero, List.set_cons_succ, if_true, if_false, Bool.false_eq_true, ite_true, ite_false, up_same, reduceIte, decide_true, decide_false, true_and, and_true, eqv_int, eqv_bool, eqv_TI, eqv_LI, eqv_TT, eqv_LT, eqv_nilL, eqv_nilT, shaped_TI, shaped_LI, shaped_TT, shaped_LT, shaped_int, shaped_bool, shaped_nilL, shaped_nilT, dints_map2, dbools_map2, datas_map, mkT_map, mkT_0, mkT_1, mkT_2, mkT_3, List.length_map, List.length_cons, List.length_nil, List.length_append, List.map_cons, List.map_nil, wipeD, Bool.not_true, Bool.not_false, eq_self, not_true_eq_false, not_false_eq_true, kitB_tt, kitB_ll, kitB_dd, kitB_bb, kitB_ib, kitB_ii, kitB_ss, kitB_tl, kitB_lt, Function.comp, datas, Option.map_some, List.cons_append, List.nil_append, CPow, le_size4, Int.toNat_natCast, rngD0, I_eq, Bo_eq, BS.qSortB, in_IT, in_IL, in_TT, in_TL, qNotN, qIsN, qSortD, qListRg, qDispT, keyX_TI, qGet, qiItems, qLockE, qLockS, qPop, qMaxDf, qLc2, qMax1, qMin1, qAppend, qExtend, tints_TI, dv_TI, Option.bind_some, qRetN, atI_0, atI_1, atI_2, mk_appT, mk_snocI, idl, rep_I, Option.map_none, qComb, qGcd]))
namespace UC
open PySem L2 DL RD
/-- what may be sorted as a set -/
def OkS (n : Nat) (w : Int) (ts : List (List Int)) : Prop := 1 ≤ n ∧ n ≤ 1000 ∧ ts.length < 4000 ∧ ∀ t ∈ ts, Mon n w t
theorem OkS.q {n : Nat} {w : Int} {ts : List (List Int)} (h : OkS n w ts) : ts.length < 4000 ∧ ∀ t ∈ ts, t ≠ [] := ⟨h.2.2.1, fun t ht e => by
  have h1 := (h.2.2.2 t ht).1
  have h2 := h.1
  rw [e] at h1
  simp at h1
  omega⟩
theorem OkS.len {n : Nat} {w : Int} {ts : List (List Int)} (h : OkS n w ts) : ∀ t ∈ ts, t.length = n := fun t ht => (h.2.2.2 t ht).1
def sp_law_divides : SpD := fun xs st Q => ∃ (a b : List Int) (n : Nat), xs = [.d (TI a), .d (TI b)] ∧ a.length = n ∧ b.length = n ∧ n ≤ 1000 ∧ Q (Bo (divB a b)) st
theorem len_law_divides : ∀ xs st Q, sp_law_divides xs st Q → xs.length = 2 := by rintro xs st Q ⟨a, b, n, rfl, _⟩; rfl
theorem sem_law_divides : ∀ xs st Q, sp_law_divides xs st Q → rd_law_divides { nx := fun _ st' => Fg Q (.d .none) st', rt := Fg Q } (startD 3 xs) st := by
  rintro xs st Q ⟨a, b, n, rfl, ha, hb, hn, K⟩
  have e0 : startD 3 [.d (TI a), .d (TI b)] = [some (.d (TI a)), some (.d (TI b)), none] := rfl
  rw [e0]
  unfold rd_law_divides
  walk_at "D"
  rw [ha]
  refine ⟨by omega, by omega, by rw [List.length_range, sizeL]; omega, ?_⟩
  refine comp_fmT _ (fun j => decide (gd b j < gd a j)) (fun (j : Nat) => I (j : Int)) trivial _ _ ?_ ?_
  · intro j hj Q1 Q2 h
    rw [List.mem_range] at hj
    walk_at "D"
    simp only [atI_gd (show j < a.length by omega), atI_gd (show j < b.length by omega)]
    walk_at "D"
    exact h
  · rw [ints_dv0]
    walk_at "D"
    simp only [List.map_eq_nil_iff]
    rw [← div_none ha hb]
    refine ⟨by decide, fg_ret K⟩
def sp_law_least : SpD := fun xs st Q => ∃ (x : DV) (ts : List (List Int)) (n : Nat) (w : Int), xs = [x] ∧ sitems st x = some ((ts.map TI).map .d) ∧ OkS n w ts ∧ Q (.d (TT (minL ts))) st
theorem len_law_least : ∀ xs st Q, sp_law_least xs st Q → xs.length = 1 := by rintro xs st Q ⟨a, ts, n, w, rfl, _⟩; rfl
theorem sem_law_least : ∀ xs st Q, sp_law_least xs st Q → rd_law_least sp_law_divides { nx := fun _ st' => Fg Q (.d .none) st', rt := Fg Q } (startD 4 xs) st := by
  rintro xs st Q ⟨x, ts, n, w, rfl, hx, ok, K⟩
  have e0 : startD 4 [x] = [some x, none, none, none] := rfl
  rw [e0]
  unfold rd_law_least
  refine seq fun N hN => ?_
  walk_at "F"
  simp only [hx]
  walk_at "D"
  refine ⟨ok.q.1, hN _ _ ?_⟩; clear hN N
  have hl : (sortU ts).length < 4000 := Nat.lt_of_le_of_lt (sortU_len ts) ok.q.1
  have hq : ∀ s ∈ sortU ts, s.length = n := fun s hs => ok.len s (mem_sortU.mp hs)
  walk_at "D"
  refine ⟨size_of (Nat.le_of_lt hl) (by omega), ?_⟩
  rw [List.map_map]
  refine comp_fmT _ (fun a => decide ((sortU ts).filter (fun b => decide (b ≠ a) && divB b a) = [])) (fun a => .d (TI a)) trivial _ _ ?_ ?_
  · intro a ha Q1 Q2 h
    walk_at "D"
    refine ⟨size_of (Nat.le_of_lt hl) (by omega), ?_⟩
    rw [List.map_map]
    refine comp_fmT _ (fun b => decide (b ≠ a) && divB b a) (fun b => .d (TI b)) trivial _ _ ?_ ?_
    · intro b hb Q3 Q4 h2
      walk_at "D"
      by_cases e : b = a
      · simp only [e, decide_true, Bool.not_true]
        simp only [e, ne_eq, not_true_eq_false, decide_false, Bool.false_and] at h2
        exact h2
      · simp only [e, decide_false, Bool.not_false, if_true]
        simp only [ne_eq, e, not_false_eq_true, decide_true, Bool.true_and] at h2
        refine ⟨b, a, n, rfl, hq b hb, hq a ha, ok.2.1, ?_⟩
        walk_at "D"
        exact h2
    · rw [tis_dv0]
      walk_at "D"
      exact ⟨by decide, h⟩
  · rw [tis_dv0]
    walk_at "D"
    exact fg_ret K
def sp_law_monomial : SpD := fun xs st Q => ∃ (a : Addr) (n : Nat) (top : Int) (B : Nat), xs = [.r a, I n, I top] ∧ n ≤ 100 ∧ 0 ≤ top ∧ top < 2 ^ 29 ∧ B + 200 < 2 ^ 50 ∧ DrawSt st a B ∧
  ∀ (v : List Int) st', Mon n top v → DrawSt st' a (B + 200) → (∀ b, b ≠ a → st' b = st b) → Q (.d (TI v)) st'
theorem len_law_monomial : ∀ xs st Q, sp_law_monomial xs st Q → xs.length = 3 := by rintro xs st Q ⟨a, n, w, B, rfl, _⟩; rfl
theorem sem_law_monomial : ∀ xs st Q, sp_law_monomial xs st Q → rd_law_monomial sp_law_draw { nx := fun _ st' => Fg Q (.d .none) st', rt := Fg Q } (startD 4 xs) st := by
  rintro xs st Q ⟨a, n, w, B, rfl, hn, w1, w2, hB, D, K⟩
  have e0 : startD 4 [.r a, I n, I w] = [some (.r a), some (I n), some (I w), none] := rfl
  rw [e0]
  unfold rd_law_monomial
  walk_at "D"
  refine ⟨by omega, by omega, by rw [List.length_range, sizeL]; omega, ?_⟩
  refine comp_wordI _ (fun i acc s => ∃ v : List Int, acc = (v.map .int).map .d ∧ v.length = i ∧ (∀ x ∈ v, 0 ≤ x ∧ x ≤ w) ∧ DrawSt s a (B + 2 * i) ∧ ∀ b, b ≠ a → s b = st b) (fun _ _ _ _ => trivial) _ st ⟨[], rfl, rfl, (by intro x hx; cases hx), D, fun _ _ => rfl⟩ ?_ ?_
  · rintro i p acc s hp ⟨v, rfl, h1, h2, D, fr⟩ Q1 h
    obtain ⟨rfl, hi⟩ := range_some hp
    walk_at "D"
    refine draw D (by omega) (by omega) (by omega) fun d1 s1 l1 u1 D1 fr1 => ?_
    walk_at "D"
    by_cases hd : 0 < d1
    · simp only [hd, decide_true, if_true]
      refine draw D1 (by omega) (by omega) (by omega) fun d2 s2 l2 u2 D2 fr2 => ?_
      refine h _ _ ⟨v ++ [d2], by simp, by simp; omega, ?_, D2.mono (by omega), fun b hb => by rw [fr2 b hb, fr1 b hb, fr b hb]⟩
      intro x hx
      rcases List.mem_append.mp hx with hx | hx
      · exact h2 x hx
      · rw [List.mem_singleton.mp hx]; omega
    · simp only [hd, decide_false]
      walk_at "D"
      refine h _ _ ⟨v ++ [0], by simp, by simp; omega, ?_, D1.mono (by omega), fun b hb => by rw [fr1 b hb, fr b hb]⟩
      intro x hx
      rcases List.mem_append.mp hx with hx | hx
      · exact h2 x hx
      · rw [List.mem_singleton.mp hx]; omega
  · rintro acc s ⟨v, rfl, h1, h2, D, fr⟩
    rw [List.length_range] at h1 D
    walk_at "D"
    exact fg_ret (K v s ⟨h1, h2⟩ (D.mono (by omega)) fr)
/-- the least generators of an ideal -/
def Idl (n : Nat) (w : Int) (cnt : Nat) (L : List (List Int)) : Prop := minL L = L ∧ L.length ≤ cnt ∧ ∀ t ∈ L, Mon n w t
def sp_law_ideal : SpD := fun xs st Q => ∃ (a : Addr) (n cnt : Nat) (top : Int) (B : Nat), xs = [.r a, I n, I cnt, I top] ∧ 1 ≤ n ∧ n ≤ 100 ∧ cnt ≤ 60 ∧ 0 ≤ top ∧ top < 2 ^ 29 ∧ B + 20000 < 2 ^ 50 ∧ DrawSt st a B ∧
  ∀ (L : List (List Int)) st', Idl n top cnt L → (∀ t ∈ L, 0 < t.sum) → DrawSt st' a (B + 20000) → (∀ b, b ≠ a → st' b = st b) → Q (.d (idl n L)) st'
theorem len_law_ideal : ∀ xs st Q, sp_law_ideal xs st Q → xs.length = 4 := by rintro xs st Q ⟨a, n, c, w, B, rfl, _⟩; rfl
theorem sem_law_ideal : ∀ xs st Q, sp_law_ideal xs st Q → rd_law_ideal sp_law_draw sp_law_monomial sp_law_least { nx := fun _ st' => Fg Q (.d .none) st', rt := Fg Q } (startD 7 xs) st := by
  rintro xs st Q ⟨a, n, cnt, top, B, rfl, hn0, hn, hcnt, w1, w2, hB, D, K⟩
  have e0 : startD 7 [.r a, I n, I cnt, I top] = [some (.r a), some (I n), some (I cnt), some (I top), none, none, none] := rfl
  rw [e0]
  unfold rd_law_ideal
  refine seq fun N hN => ?_
  walk_at "D"
  refine draw D (by omega) (by omega) (by omega) fun v s1 l1 u1 D1 fr1 => ?_
  obtain ⟨c, rfl⟩ : ∃ c : Nat, v = (c : Int) := ⟨v.toNat, by omega⟩
  walk_at "D"
  refine ⟨by omega, by omega, by rw [List.length_range, sizeL]; omega, ?_⟩
  refine comp_wordI _ (fun i acc s => ∃ ts : List (List Int), acc = (ts.map TI).map .d ∧ ts.length = i ∧ (∀ t ∈ ts, Mon n top t) ∧ DrawSt s a (B + 1 + 200 * i) ∧ ∀ b, b ≠ a → s b = st b) (fun _ _ _ _ => trivial) _ s1 ⟨[], rfl, rfl, (by intro x hx; cases hx), D1, fr1⟩ ?_ ?_
  · rintro i p acc s hp ⟨ts, rfl, h1, h2, D, fr⟩ Q1 h
    obtain ⟨rfl, hi⟩ := range_some hp
    walk_at "D"
    refine ⟨a, n, top, _, rfl, hn, w1, w2, by omega, D, fun t s2 ht D2 fr2 => ?_⟩
    refine h _ _ ⟨ts ++ [t], by simp, by simp; omega, ?_, D2.mono (by omega), fun b hb => by rw [fr2 b hb, fr b hb]⟩
    intro x hx
    rcases List.mem_append.mp hx with hx | hx
    · exact h2 x hx
    · rw [List.mem_singleton.mp hx]; exact ht
  · rintro acc s ⟨ts, rfl, h1, h2, D, fr⟩
    rw [List.length_range] at h1 D
    walk_at "D"
    refine hN _ _ ?_; clear hN N
    walk_at "D"
    refine ⟨size_of (m := 60) (by omega) (by omega), ?_⟩
    rw [List.map_map]
    refine comp_fmT _ (fun t => decide (0 < t.sum)) (fun t => .d (TI t)) trivial _ _ ?_ ?_
    · intro t ht Q1 Q2 h
      walk_at "D"
      by_cases e : 0 < t.sum
      · simp only [e, decide_true, if_true] at h ⊢
        walk_at "D"
        exact h
      · simp only [e, decide_false] at h ⊢
        walk_at "D"
        exact h
    · rw [tis_dv0]
      walk_at "D"
      have hf : (ts.filter fun t => decide (0 < t.sum)).length ≤ c := Nat.le_trans (List.length_filter_le _ _) (by omega)
      have hm : ∀ t ∈ ts.filter (fun t => decide (0 < t.sum)), Mon n top t := fun t ht => h2 t (List.mem_filter.mp ht).1
      have hle : ∀ t ∈ ts.filter (fun t => decide (0 < t.sum)), t.length = n := fun t ht => (hm t ht).1
      refine ⟨_, ts.filter fun t => decide (0 < t.sum), n, top, rfl, rfl, ⟨hn0, by omega, by omega, hm⟩, ?_⟩
      walk_at "D"
      refine ⟨by decide, fg_ret (K _ s ⟨min_idem hle, Nat.le_trans (min_len _) (by omega), fun t ht => hm t (min_sub t ht)⟩ (fun t ht => of_decide_eq_true (List.mem_filter.mp (min_sub t ht)).2) (D.mono (by omega)) fr)⟩
/-- the program's own -/
def sp_least_ones : SpD := fun xs st Q => ∃ (x : DV) (ts : List (List Int)) (n : Nat) (w : Int), xs = [x] ∧ sitems st x = some ((ts.map TI).map .d) ∧ OkS n w ts ∧
  ∀ p st', st p = none → st' p = some (.lst (((minL ts).map TI).map .d)) → (∀ b, b ≠ p → st' b = st b) → Q (.r p) st'
theorem len_least_ones : ∀ xs st Q, sp_least_ones xs st Q → xs.length = 1 := by rintro xs st Q ⟨a, ts, n, w, rfl, _⟩; rfl
theorem sem_least_ones : ∀ xs st Q, sp_least_ones xs st Q → rd_least_ones sp_divides { nx := fun _ st' => Fg Q (.d .none) st', rt := Fg Q } (startD 4 xs) st := by
  rintro xs st Q ⟨x, ts, n, w, rfl, hx, ok, K⟩
  have e0 : startD 4 [x] = [some x, none, none, none] := rfl
  rw [e0]
  unfold rd_least_ones
  have hl : (sortU ts).length < 4000 := Nat.lt_of_le_of_lt (sortU_len ts) ok.q.1
  have hacc : ∀ i, (((sortU ts).take i).foldl stepL []).length ≤ i := by
    have : ∀ (l acc : List (List Int)), (l.foldl stepL acc).length ≤ acc.length + l.length := by
      intro l
      induction l with
      | nil => exact fun acc => Nat.le_refl _
      | cons m l ih =>
        intro acc
        refine Nat.le_trans (ih (stepL acc m)) ?_
        unfold stepL
        split
        · simp <;> omega
        · simp <;> omega
    intro i
    refine Nat.le_trans (this _ []) ?_
    simp only [List.length_nil, List.length_take]
    omega
  refine seq fun N hN => ?_
  walk_at "D"
  refine ⟨by decide, fun p hp => hN _ _ ?_⟩; clear hN N
  refine seq fun N hN => ?_
  walk_at "F"
  simp only [qiSeq, BS.qSortB, qv, List.getElem?_cons_zero, sitems_le hx (le_up1 hp)]
  walk_at "D"
  refine ⟨ok.q.1, ?_⟩
  rw [List.map_map]
  refine for_byT _ (fun i ε s => ∃ y, ε = [some x, some (.r p), y, none] ∧ s p = some (.lst (((((sortU ts).take i).foldl stepL []).map TI).map .d)) ∧ ∀ b, b ≠ p → s b = st b) ⟨none, rfl, up_same, fun b hb => up_ne hb⟩ (fun _ _ _ _ => trivial) ?_ ?_
  · rintro i m ε s hm ⟨y, rfl, hs, fr⟩ L hL
    walk_at "D"
    simp only [hs]
    walk_at "D"
    have hlen := hacc i
    have hi : i < (sortU ts).length := (List.getElem?_eq_some_iff.mp hm).1
    refine ⟨size_of (m := 4000) (by omega) (by omega), ?_⟩
    rw [List.map_map]
    have hn : (sortU ts).take (i + 1) = (sortU ts).take i ++ [m] := by rw [List.take_succ, hm]; rfl
    generalize hA : ((sortU ts).take i).foldl stepL [] = A at hs hlen ⊢
    refine comp_mapT _ (fun o => Bo (divB o m)) (by rw [← List.map_map]; exact hs) _ _ ?_ ?_
    · intro o ho Q1 h
      walk_at "D"
      exact ⟨o, m, rfl, h⟩
    · have e1 : [] ++ A.map (fun o => Bo (divB o m)) = ((A.map fun o => divB o m).map PyData.bool).map DV.d := by
        rw [List.nil_append, List.map_map, List.map_map]
        rfl
      rw [e1]
      walk_at "D"
      have hstep : ((sortU ts).take (i + 1)).foldl stepL [] = if (A.map fun o => divB o m).any id = true then A else A ++ [m] := by rw [hn, List.foldl_append, hA]; rfl
      cases e : (A.map fun o => divB o m).any id with
      | true =>
        rw [e, if_pos rfl] at hstep
        walk_at "D"
        exact hL _ _ ⟨_, rfl, by rw [hstep]; exact hs, fr⟩
      | false =>
        rw [e, if_neg Bool.false_ne_true] at hstep
        walk_at "D"
        refine ⟨⟨_, hs⟩, _, hs, by simp only [List.length_map, sizeL]; omega, hL _ _ ⟨_, rfl, ?_, fun b hb => by rw [up_ne hb]; exact fr b hb⟩⟩
        rw [up_same, hstep]
        simp
  · rintro ε s ⟨y, rfl, hs, fr⟩
    refine hN _ _ ?_
    walk_at "D"
    rw [List.take_length, fold_min ok.len] at hs
    exact fg_ret (K p s hp hs fr)
def sp_made : SpD := fun xs st Q => ∃ (x : DV) (ts : List (List Int)) (n : Nat), xs = [I n, x] ∧ sitems st x = some ((ts.map TI).map .d) ∧ OkS n 60 ts ∧ (minL ts).length ≤ 60 ∧ Q (.d (idl n (minL ts))) st
theorem len_made : ∀ xs st Q, sp_made xs st Q → xs.length = 2 := by rintro xs st Q ⟨a, ts, n, rfl, _⟩; rfl
theorem foldl_max_le {b : Int} : ∀ (l : List Int) (a : Int), a ≤ b → (∀ x ∈ l, x ≤ b) → l.foldl max a ≤ b
  | [], a, h, _ => h
  | x :: l, a, h, hl => foldl_max_le l (max a x) (by have := hl x List.mem_cons_self; omega) fun y hy => hl y (List.mem_cons_of_mem _ hy)
theorem sem_made : ∀ xs st Q, sp_made xs st Q → rd_made sp_least_ones { nx := fun _ st' => Fg Q (.d .none) st', rt := Fg Q } (startD 4 xs) st := by
  rintro xs st Q ⟨x, ts, n, rfl, hx, ok, h60, K⟩
  have e0 : startD 4 [I n, x] = [some (I n), some x, none, none] := rfl
  rw [e0]
  unfold rd_made
  refine seq fun N hN => ?_
  walk_at "D"
  refine ⟨x, ts, n, 60, rfl, hx, ok, fun p s hp hs fr => hN _ _ ?_⟩; clear hN N
  refine seq fun N hN => ?_
  walk_at "D"
  simp only [hs]
  walk_at "D"
  have hno : ¬ (60 : Int) < ((minL ts).length : Int) := by omega
  simp only [hno, decide_false]
  walk_at "D"
  refine hN _ _ ?_; clear hN N
  refine seq fun N hN => ?_
  walk_at "D"
  simp only [hs]
  rw [List.map_map]
  refine for_byT _ (fun i ε s' => s' = s ∧ ∃ y, ε = [some (I n), some x, some (.r p), y]) ⟨rfl, none, rfl⟩ (fun _ _ s' h => by rw [h.1, hs, List.map_map]) ?_ ?_
  · rintro i m ε s' hm ⟨rfl, y, rfl⟩ L hL
    have hmon := ok.2.2.2 m (min_sub m (List.mem_of_getElem? hm))
    cases m with
    | nil => have := hmon.1; have := ok.1; simp at *; omega
    | cons a r =>
      walk_at "D"
      have e1 : dints (DV.d (.int a) :: List.map DV.d (List.map PyData.int r)) = some (a :: r) := dints_map2 (a :: r)
      simp only [e1]
      walk_at "D"
      have hno : ¬ 60 < r.foldl max a := by
        have := foldl_max_le r a (hmon.2 a List.mem_cons_self).2 fun x hx => (hmon.2 x (List.mem_cons_of_mem _ hx)).2
        omega
      simp only [hno, decide_false]
      walk_at "D"
      exact hL _ _ ⟨rfl, _, rfl⟩
  · rintro ε s' ⟨rfl, y, rfl⟩
    refine hN _ _ ?_
    walk_at "D"
    simp only [hs]
    walk_at "D"
    exact ⟨by decide, fg_le (le_up hp fr) K⟩
def sp_contains : SpD := fun xs st Q => ∃ (L : List (List Int)) (x : PyData) (c : List Int), xs = [.d (.tuple [x, TT L]), .d (TI c)] ∧ L.length ≤ 1000 ∧ Q (Bo (inL L c)) st
theorem len_contains : ∀ xs st Q, sp_contains xs st Q → xs.length = 2 := by rintro xs st Q ⟨a, b, n, rfl, _⟩; rfl
theorem sem_contains : ∀ xs st Q, sp_contains xs st Q → rd_contains sp_divides { nx := fun _ st' => Fg Q (.d .none) st', rt := Fg Q } (startD 3 xs) st := by
  rintro xs st Q ⟨L, x, c, rfl, hl, K⟩
  have e0 : startD 3 [.d (.tuple [x, TT L]), .d (TI c)] = [some (.d (.tuple [x, TT L])), some (.d (TI c)), none] := rfl
  rw [e0]
  unfold rd_contains
  walk_at "D"
  refine ⟨size_of hl (by omega), ?_⟩
  rw [List.map_map]
  refine comp_mapT _ (fun g => Bo (divB g c)) trivial _ _ ?_ ?_
  · intro g hg Q1 h
    walk_at "D"
    exact ⟨g, c, rfl, h⟩
  · have e1 : [] ++ L.map (fun o => Bo (divB o c)) = ((L.map fun o => divB o c).map PyData.bool).map DV.d := by
      rw [List.nil_append, List.map_map, List.map_map]
      rfl
    rw [e1]
    walk_at "D"
    refine fg_ret ?_
    have e2 : (L.map fun o => divB o c).any id = inL L c := by
      unfold inL
      rw [List.any_map]
      rfl
    rw [e2]
    exact K
def sp_law_in : SpD := fun xs st Q => ∃ (L : List (List Int)) (c : List Int) (n : Nat), xs = [.d (TT L), .d (TI c)] ∧ L.length ≤ 1000 ∧ n ≤ 1000 ∧ (∀ g ∈ L, g.length = n) ∧ c.length = n ∧ Q (Bo (inL L c)) st
theorem len_law_in : ∀ xs st Q, sp_law_in xs st Q → xs.length = 2 := by rintro xs st Q ⟨a, b, n, rfl, _⟩; rfl
theorem inL_filter (L : List (List Int)) (c : List Int) : inL L c = !decide (L.filter (fun g => divB g c) = []) := by
  cases h : inL L c with
  | true =>
    obtain ⟨g, h1, h2⟩ := inL_iff.mp h
    rw [decide_eq_false fun e => by rw [List.filter_eq_nil_iff] at e; exact e g h1 h2]
    rfl
  | false =>
    rw [decide_eq_true (List.filter_eq_nil_iff.mpr fun g h1 h2 => by rw [inL_iff.mpr ⟨g, h1, h2⟩] at h; cases h)]
    rfl
theorem sem_law_in : ∀ xs st Q, sp_law_in xs st Q → rd_law_in sp_law_divides { nx := fun _ st' => Fg Q (.d .none) st', rt := Fg Q } (startD 3 xs) st := by
  rintro xs st Q ⟨L, c, n, rfl, hl, hn, hL, hc, K⟩
  have e0 : startD 3 [.d (TT L), .d (TI c)] = [some (.d (TT L)), some (.d (TI c)), none] := rfl
  rw [e0]
  unfold rd_law_in
  walk_at "D"
  refine ⟨size_of hl (by omega), ?_⟩
  rw [List.map_map]
  refine comp_fmT _ (fun g => divB g c) (fun g => .d (TI g)) trivial _ _ ?_ ?_
  · intro g hg Q1 Q2 h
    walk_at "D"
    refine ⟨g, c, n, rfl, hL g hg, hc, hn, ?_⟩
    walk_at "D"
    exact h
  · rw [tis_dv0]
    walk_at "D"
    rw [← inL_filter]
    exact ⟨by decide, fg_ret K⟩
end UC
end
section
set_option Elab.async false
set_option linter.all false
set_option maxRecDepth 100000
set_option maxHeartbeats 1000000
namespace UC
open PySem L2 DL RD
theorem mul_zero {n : Nat} {a : List Int} (ha : a.length = n) : mulL a (List.replicate n 0) = a := by
  unfold mulL
  rw [gd_ext (len_zw ha (List.length_replicate ..)) ha]
  intro j hj
  rw [gd_zw ha (List.length_replicate ..) hj, gd_rep hj]
  omega
section
variable {n : Nat} {w : Int} {A B : List (List Int)}
theorem Idl.len {cnt : Nat} (h : Idl n w cnt A) : ∀ a ∈ A, a.length = n := fun a ha => (h.2.2 a ha).1
end
theorem eqv_idl (n m : Int) (X Y : List (List Int)) : PyData.eqv (.tuple [.int n, TT X]) (.tuple [.int m, TT Y]) = (decide (n = m) && decide (X = Y)) := by
  rw [PyData.eqv, PyData.eqvAll, PyData.eqvAll, PyData.eqvAll, eqv_int, eqv_TT, Bool.and_true]
theorem shaped_idl (n : Int) (X : List (List Int)) : SeqAt.shaped (.tuple [.int n, TT X]) = true := (sh_tuple (n := 3) (l := [.int n, TT X]) fun x hx => by
  simp only [List.mem_cons, List.not_mem_nil, or_false] at hx
  rcases hx with rfl | rfl
  · exact sh_int
  · exact sh_TT).mono (by omega) |>.shaped
end UC
end
section
set_option Elab.async false
set_option linter.all false
set_option maxRecDepth 100000
set_option maxHeartbeats 1000000
namespace UC
open PySem L2 DL RD
theorem red_ext {X Y : List (List Int)} {n : Nat} (hX : minL X = X) (hY : minL Y = Y) (lX : ∀ a ∈ X, a.length = n) (lY : ∀ a ∈ Y, a.length = n) (h : ∀ c : List Int, c.length = n → inL X c = inL Y c) : X = Y := by
  rw [← hX, ← hY]
  refine min_cong lX lY (fun s hs => ?_) fun s hs => ?_
  · have := h s (lX s hs)
    rw [inL_iff.mpr ⟨s, hs, divB_refl s⟩] at this
    exact inL_iff.mp this.symm
  · have := h s (lY s hs)
    rw [inL_iff.mpr ⟨s, hs, divB_refl s⟩] at this
    exact inL_iff.mp this
theorem min_ext {S T : List (List Int)} {n : Nat} (lS : ∀ a ∈ S, a.length = n) (lT : ∀ a ∈ T, a.length = n) (h : ∀ c : List Int, c.length = n → (inL (minL S) c = true ↔ inL (minL T) c = true)) : minL S = minL T :=
  red_ext (min_idem lS) (min_idem lT) (fun a ha => lS a (min_sub a ha)) (fun a ha => lT a (min_sub a ha)) fun c hc => Bool.eq_iff_iff.mpr (h c hc)
section
variable {n : Nat} {w : Int} {A B : List (List Int)}
theorem Idl.mono {c : Nat} {v : Int} {d : Nat} (h : Idl n w c A) (hw : w ≤ v) (hc : c ≤ d) : Idl n v d A := ⟨h.1, Nat.le_trans h.2.1 hc, fun t ht => (h.2.2 t ht).mono hw⟩
end
end UC
end
section
set_option Elab.async false
set_option linter.all false
set_option maxRecDepth 100000
set_option maxHeartbeats 1000000
namespace UC
open PySem L2 DL RD
def NN (n : Nat) (c : List Int) : Prop := c.length = n ∧ ∀ x ∈ c, 0 ≤ x
theorem Mon.nn {n : Nat} {w : Int} {a : List Int} (h : Mon n w a) : NN n a := ⟨h.1, fun x hx => (h.2 x hx).1⟩
theorem NN.at {n : Nat} {c : List Int} (h : NN n c) {j : Nat} (hj : j < n) : 0 ≤ gd c j := h.2 _ (gd_mem (by rw [h.1]; exact hj))
theorem nn_mul {n : Nat} {a b : List Int} (ha : NN n a) (hb : NN n b) : NN n (mulL a b) := by
  refine ⟨len_zw ha.1 hb.1, fun x hx => ?_⟩
  unfold mulL at hx
  rw [← range_zw ha.1 hb.1] at hx
  obtain ⟨j, hj, rfl⟩ := List.mem_map.mp hx
  rw [List.mem_range] at hj
  have h1 := ha.at hj
  have h2 := hb.at hj
  omega
end UC
end
section
set_option Elab.async false
set_option linter.all false
set_option maxRecDepth 100000
set_option maxHeartbeats 1000000
namespace UC
open PySem L2 DL RD
theorem lenMul {a b : List Int} {n : Nat} (ha : a.length = n) (hb : b.length = n) : (mulL a b).length = n := len_zw ha hb
structure Keeps (n : Nat) (h : List Int → List Int) : Prop where
  nn : ∀ a, NN n a → NN n (h a)
  mono : ∀ a b, NN n a → NN n b → divB a b = true → divB (h a) (h b) = true
abbrev NNs (n : Nat) (A : List (List Int)) : Prop := ∀ a ∈ A, NN n a
theorem NNs.len {n : Nat} {A : List (List Int)} (h : NNs n A) : ∀ a ∈ A, a.length = n := fun a ha => (h a ha).1
theorem NNs.app {n : Nat} {A B : List (List Int)} (h : NNs n A) (k : NNs n B) : NNs n (A ++ B) := fun a ha => (List.mem_append.mp ha).elim (h a) (k a)
theorem NNs.map {n : Nat} {A : List (List Int)} {f : List Int → List Int} (kf : Keeps n f) (h : NNs n A) : NNs n (A.map f) := fun a ha => by
  obtain ⟨b, hb, rfl⟩ := List.mem_map.mp ha
  exact kf.nn b (h b hb)
theorem Idl.nns {n : Nat} {w : Int} {c : Nat} {A : List (List Int)} (h : Idl n w c A) : NNs n A := fun a ha => (h.2.2 a ha).nn
end UC
end
section
set_option Elab.async false
set_option linter.all false
set_option maxRecDepth 100000
set_option maxHeartbeats 1000000
namespace UC
open PySem L2 DL RD
theorem ris_nodup {L : List (List Int)} (h : RisL L) : L.Nodup := List.Pairwise.imp (fun h e => by rw [e, lexL_irr] at h; cases h) h
theorem nn_of_gd {n : Nat} {a : List Int} (h : a.length = n) (k : ∀ j < n, 0 ≤ gd a j) : NN n a := ⟨h, fun x hx => by
  obtain ⟨j, hj, rfl⟩ := List.mem_iff_getElem.mp hx
  rw [gd_eq hj]
  exact k j (by omega)⟩
def addA (K : List (List Int)) (a : List Int) : List (List Int) := if a ∈ K then K else K ++ [a]
def stepF (K : List (List Int)) (g : List Int) : List (List Int) := (K.map fun m => lcmL m g).foldl addA K
end UC
end
section
set_option Elab.async false
set_option linter.all false
set_option maxRecDepth 100000
set_option maxHeartbeats 1000000
namespace UC
open PySem L2 DL RD
abbrev Tab := List (List Int × Int)
def evT (f : List Int → Int) : Tab → Int
  | [] => 0
  | p :: T => p.2 * f p.1 + evT f T
theorem ev_cong {f g : List Int → Int} : ∀ {T : Tab}, (∀ p ∈ T, f p.1 = g p.1) → evT f T = evT g T
  | [], _ => rfl
  | p :: T, h => by
    rw [evT, evT, h p List.mem_cons_self, ev_cong (T := T) fun q hq => h q (List.mem_cons_of_mem _ hq)]
theorem ev_zero : ∀ T : Tab, evT (fun _ => 0) T = 0
  | [] => rfl
  | p :: T => by rw [evT, ev_zero T, Int.mul_zero]; rfl
def putZ (T : Tab) (a : List Int) (v : Int) : Tab := if (T.any fun p => decide (p.1 = a)) = true then T.map fun p => if p.1 = a then (p.1, v) else p else T ++ [(a, v)]
abbrev keysZ (T : Tab) : List (List Int) := T.map (·.1)
theorem any_key {T : Tab} {a : List Int} : (T.any fun p => decide (p.1 = a)) = true ↔ a ∈ keysZ T := by
  rw [List.any_eq_true, List.mem_map]
  exact ⟨fun ⟨p, h, e⟩ => ⟨p, h, of_decide_eq_true e⟩, fun ⟨p, h, e⟩ => ⟨p, h, decide_eq_true e⟩⟩
def chi (b a : List Int) : Int := if divB a b = true then 1 else 0
theorem zero_div {n : Nat} {b : List Int} (hb : NN n b) : divB (List.replicate n 0) b = true := (divB_iff (List.length_replicate ..) hb.1).mpr fun j hj => by
  rw [gd_rep hj]
  exact hb.at hj
structure Canon (n : Nat) (P : Tab) : Prop where
  ris : RisL (keysZ P)
  nn : ∀ p ∈ P, NN n p.1
  nz : ∀ p ∈ P, p.2 ≠ 0
theorem chi_above {n : Nat} {a b : List Int} (ha : a.length = n) (hb : b.length = n) (h : lexL a b = true) : chi a b = 0 := by
  refine if_neg fun z => ?_
  rcases divB_lex (hb.trans ha.symm) z with e | e
  · rw [e, lexL_irr] at h; cases h
  · have := lexL_tr e h; rw [lexL_irr] at this; cases this
theorem ev_above {n : Nat} {a : List Int} (ha : a.length = n) {P : Tab} (hP : ∀ p ∈ P, NN n p.1 ∧ lexL a p.1 = true) : evT (chi a) P = 0 := by
  rw [ev_cong (g := fun _ => 0) fun p hp => chi_above ha (hP p hp).1.1 (hP p hp).2, ev_zero]
theorem Canon.below {n : Nat} {a : List Int} (ha : NN n a) {p : List Int × Int} {P : Tab} (h : Canon n (p :: P)) (hl : lexL a p.1 = true) : evT (chi a) (p :: P) = 0 := by
  refine ev_above ha.1 fun q hq => ⟨h.nn q hq, ?_⟩
  rcases List.mem_cons.mp hq with rfl | hq
  · exact hl
  · exact lexL_tr hl ((List.pairwise_cons.mp h.ris).1 _ (List.mem_map.mpr ⟨q, hq, rfl⟩))
end UC
end
section
set_option Elab.async false
set_option linter.all false
set_option maxRecDepth 100000
set_option maxHeartbeats 1000000
namespace UC
open PySem L2 DL RD
def degR : Nat → Nat → List (List Int)
  | 0, d => if d = 0 then [[]] else []
  | n + 1, d => (List.range (d + 1)).flatMap fun j => (degR n j).map fun a => ((d - j : Nat) : Int) :: a
theorem nn_sum {n : Nat} {a : List Int} (h : NN n a) : 0 ≤ a.sum := by
  have h2 := h.2
  clear h
  induction a with
  | nil => exact Int.le_refl 0
  | cons x a ih =>
    rw [List.sum_cons]
    have h3 := h2 x List.mem_cons_self
    have h4 := ih fun y hy => h2 y (List.mem_cons_of_mem _ hy)
    omega
theorem nn_cons {n : Nat} {x : Int} {a : List Int} : NN (n + 1) (x :: a) ↔ 0 ≤ x ∧ NN n a :=
  ⟨fun h => ⟨h.2 x List.mem_cons_self, by have := h.1; rw [List.length_cons] at this; omega, fun y hy => h.2 y (List.mem_cons_of_mem _ hy)⟩, fun h => ⟨by rw [List.length_cons, h.2.1], fun y hy => by rcases List.mem_cons.mp hy with rfl | hy; exact h.1; exact h.2.2 y hy⟩⟩
theorem mem_degR : ∀ {n d : Nat} {a : List Int}, a ∈ degR n d ↔ NN n a ∧ a.sum = d
  | 0, d, a => by
    unfold degR
    constructor
    · intro h
      split at h
      · rw [List.mem_singleton.mp h]
        rename_i e
        exact ⟨⟨rfl, fun x hx => nomatch hx⟩, by rw [e]; rfl⟩
      · cases h
    · rintro ⟨⟨h1, _⟩, h2⟩
      have e := List.eq_nil_of_length_eq_zero h1
      subst e
      have e : d = 0 := by
        have : (0 : Int) = d := h2
        omega
      rw [if_pos e]
      exact List.mem_singleton.mpr rfl
  | n + 1, d, a => by
    unfold degR
    rw [List.mem_flatMap]
    constructor
    · rintro ⟨j, hj, h⟩
      obtain ⟨b, hb, rfl⟩ := List.mem_map.mp h
      rw [List.mem_range] at hj
      obtain ⟨h1, h2⟩ := mem_degR.mp hb
      refine ⟨nn_cons.mpr ⟨by omega, h1⟩, ?_⟩
      rw [List.sum_cons, h2]
      omega
    · rintro ⟨h1, h2⟩
      cases a with
      | nil => cases h1.1
      | cons x a =>
        obtain ⟨h3, h4⟩ := nn_cons.mp h1
        have h5 := nn_sum h4
        rw [List.sum_cons] at h2
        refine ⟨a.sum.toNat, List.mem_range.mpr (by omega), List.mem_map.mpr ⟨a, mem_degR.mpr ⟨h4, by omega⟩, ?_⟩⟩
        rw [show ((d - a.sum.toNat : Nat) : Int) = x by omega]
def cntD (n d : Nat) : Nat := (degR n d).length
theorem sum_mul : ∀ {a b : List Int}, a.length = b.length → (mulL a b).sum = a.sum + b.sum
  | [], [], _ => rfl
  | x :: a, y :: b, h => by
    have := sum_mul (a := a) (b := b) (by simpa using h)
    unfold mulL at this ⊢
    rw [List.zipWith_cons_cons, List.sum_cons, List.sum_cons, List.sum_cons, this]
    omega
theorem div_split {n : Nat} {a c : List Int} (ha : NN n a) (hc : NN n c) (h : divB a c = true) : ∃ b, NN n b ∧ c = mulL a b := by
  have hd := (divB_iff ha.1 hc.1).mp h
  have hl : (List.zipWith (fun x y => x - y) c a).length = n := len_zw hc.1 ha.1
  refine ⟨List.zipWith (fun x y => x - y) c a, nn_of_gd hl fun j hj => ?_, (gd_ext hc.1 (len_zw ha.1 hl)).mpr fun j hj => ?_⟩
  · rw [gd_zw hc.1 ha.1 hj]
    have := hd j hj
    omega
  · rw [gd_zw ha.1 hl hj, gd_zw hc.1 ha.1 hj]
    omega
def hC (n d : Nat) (m : Int) : Int := if m ≤ d then (cntD n (d - m).toNat : Int) else 0
end UC
end
section
set_option Elab.async false
set_option linter.all false
set_option maxRecDepth 100000
set_option maxHeartbeats 1000000
namespace UC
open PySem L2 DL RD
def holdsB (p m : List Int) : Bool := (p.zip m).any fun z => decide (0 < z.1) && decide (z.1 ≤ z.2)
theorem holds_iff {p m : List Int} {n : Nat} (hp : p.length = n) (hm : m.length = n) : holdsB p m = true ↔ ∃ j < n, 0 < gd p j ∧ gd p j ≤ gd m j := by
  unfold holdsB
  rw [zip_range hp hm, List.any_eq_true]
  constructor
  · rintro ⟨x, hx, h⟩
    obtain ⟨j, hj, rfl⟩ := List.mem_map.mp hx
    simp only [Bool.and_eq_true, decide_eq_true_eq] at h
    exact ⟨j, List.mem_range.mp hj, h⟩
  · rintro ⟨j, hj, h1, h2⟩
    exact ⟨_, List.mem_map.mpr ⟨j, List.mem_range.mpr hj, rfl⟩, by simp only [Bool.and_eq_true, decide_eq_true_eq]; exact ⟨h1, h2⟩⟩
/-- the power of one variable -/
def powL (n : Nat) (i : Nat) (e : Int) : List Int := (List.range n).map fun k => if k = i then e else 0
theorem len_powL {n i : Nat} {e : Int} : (powL n i e).length = n := by unfold powL; rw [List.length_map, List.length_range]
theorem gd_powL {n i k : Nat} {e : Int} (hk : k < n) : gd (powL n i e) k = if k = i then e else 0 := by
  rw [← gd_eq (by rw [len_powL]; exact hk)]
  unfold powL
  rw [List.getElem_map, List.getElem_range]
def powersL (p : List Int) : List (List Int) := (p.zipIdx.filter fun z => decide (0 < z.1)).map fun z => powL p.length z.2 z.1
theorem mem_powersL {p x : List Int} {n : Nat} (hp : p.length = n) : x ∈ powersL p ↔ ∃ j < n, 0 < gd p j ∧ x = powL n j (gd p j) := by
  unfold powersL
  rw [zipIdx_range, hp]
  simp only [List.mem_map, List.mem_filter, List.mem_range, decide_eq_true_eq]
  constructor
  · rintro ⟨z, ⟨⟨j, hj, rfl⟩, h⟩, rfl⟩
    exact ⟨j, hj, h, rfl⟩
  · rintro ⟨j, hj, h, rfl⟩
    exact ⟨_, ⟨⟨j, hj, rfl⟩, h⟩, rfl⟩
/-- the first one's ideal contains the other's -/
def aroundB (p q : List Int) : Bool := (powersL q).all fun x => holdsB p x
theorem around_iff {p q : List Int} {n : Nat} (hp : p.length = n) (hq : q.length = n) : aroundB p q = true ↔ ∀ j < n, 0 < gd q j → 0 < gd p j ∧ gd p j ≤ gd q j := by
  unfold aroundB
  rw [List.all_eq_true]
  constructor
  · intro h j hj h0
    obtain ⟨i, hi, h1, h2⟩ := (holds_iff hp len_powL).mp (h _ ((mem_powersL hq).mpr ⟨j, hj, h0, rfl⟩))
    rw [gd_powL hi] at h2
    by_cases e : i = j
    · subst e
      rw [if_pos rfl] at h2
      exact ⟨h1, h2⟩
    · rw [if_neg e] at h2
      omega
  · intro h x hx
    obtain ⟨j, hj, h0, rfl⟩ := (mem_powersL hq).mp hx
    obtain ⟨h1, h2⟩ := h j hj h0
    exact (holds_iff hp len_powL).mpr ⟨j, hj, h1, by rw [gd_powL hj, if_pos rfl]; exact h2⟩
theorem around_trans {p q r : List Int} {n : Nat} (hp : p.length = n) (hq : q.length = n) (hr : r.length = n) (h1 : aroundB p q = true) (h2 : aroundB q r = true) : aroundB p r = true :=
  (around_iff hp hr).mpr fun j hj h => by
    obtain ⟨a, b⟩ := (around_iff hq hr).mp h2 j hj h
    obtain ⟨c, d⟩ := (around_iff hp hq).mp h1 j hj a
    exact ⟨c, by omega⟩
theorem around_anti {p q : List Int} {n : Nat} (hp : NN n p) (hq : NN n q) (h1 : aroundB p q = true) (h2 : aroundB q p = true) : p = q :=
  (gd_ext hp.1 hq.1).mpr fun j hj => by
    have a := (around_iff hp.1 hq.1).mp h1 j hj
    have b := (around_iff hq.1 hp.1).mp h2 j hj
    have := hp.at hj
    have := hq.at hj
    by_cases c : 0 < gd q j
    · have := (a c)
      have := b this.1
      omega
    · by_cases d : 0 < gd p j
      · have := b d
        omega
      · omega
/-- what the components of the ideal of some generators are -/
structure Comp (n : Nat) (G L : List (List Int)) : Prop where
  nn : NNs n L
  up : ∀ p ∈ L, ∀ g ∈ G, holdsB p g = true
  all : ∀ q, NN n q → (∀ g ∈ G, holdsB q g = true) → ∃ p ∈ L, aroundB q p = true
  anti : ∀ p ∈ L, ∀ q ∈ L, aroundB p q = true → p = q
theorem Comp.same {n : Nat} {G L M : List (List Int)} (a : Comp n G L) (b : Comp n G M) : ∀ x, x ∈ L ↔ x ∈ M := by
  have key : ∀ {L M : List (List Int)}, Comp n G L → Comp n G M → ∀ x ∈ L, x ∈ M := fun {L M} a b x hx => by
    obtain ⟨p, hp, h1⟩ := b.all x (a.nn x hx) (a.up x hx)
    obtain ⟨q, hq, h2⟩ := a.all p (b.nn p hp) (b.up p hp)
    have nx := a.nn x hx
    have np := b.nn p hp
    have e := a.anti x hx q hq (around_trans nx.1 np.1 (a.nn q hq).1 h1 h2)
    subst e
    rw [around_anti nx np h1 h2]
    exact hp
  exact fun x => ⟨key a b x, key b a x⟩
theorem Comp.uniq {n : Nat} {G L M : List (List Int)} (a : Comp n G L) (b : Comp n G M) (rL : RisL L) (rM : RisL M) : L = M := ris_eq rL rM (a.same b)
end UC
end
section
set_option Elab.async false
set_option linter.all false
set_option maxRecDepth 100000
set_option maxHeartbeats 1000000
open PySem L2 DL RD UC
local macro_rules | `(tactic| walk_at "E") => `(tactic| (try simp only [qAsg, qRet, qDrop, qIfS, qTest, qAndT, qOrT, qNotT, qAndV, qOrV, qNotV, qIf, qOp, qUn, qChain, onB, qv, qc, qgN, qgT, qgCons, qgNil, qCons, qNil, qTup, qLst, qPar, qPar3, qAug, qCB, qCall, qLen, qTupleC, qListC, qMax2, qMin2, qIntC, qSum, qAny, qAll, qIsi, tyName, qAdd, qSub, qMul, qFdiv, qMod, qPow, qI2, qCmpI, qEq, qNe, qLt, qLe, qGt, qGe, qNeg, qIx, qDGet, qDIn, qDPut, qSl, qPart, qNoPart, qNext, qFor, qiSeq, qiRng1, qiRng2, qiZip, qiEnum, qLc, seqSrc, lsrc, titems, litems, sitems, fz, newL, List.getElem?_cons_zero, List.getElem?_cons_succ, List.set_cons_zero, List.set_cons_succ, if_true, if_false, Bool.false_eq_true, ite_true, ite_false, up_same, reduceIte, decide_true, decide_false, true_and, and_true]))
local macro_rules | `(tactic| walk_at "D") => `(tactic| (try simp only [qAsg, qRet, qDrop, qIfS, qTest, qAndT, qOrT, qNotT, qAndV, qOrV, qNotV, qIf, qOp, qUn, qChain, onB, qv, qc, qgN, qgT, qgCons, qgNil, qCons, qNil, qTup, qLst, qPar, qPar3, qAug, qCB, qCall, qLen, qTupleC, qListC, qMax2, qMin2, qIntC, qSum, qAny, qAll, qIsi, tyName, qAdd, qSub, qMul, qFdiv, qMod, qPow, qI2, qCmpI, qEq, qNe, qLt, qLe, qGt, qGe, qNeg, qIx, qDGet, qDIn, qDPut, qSl, qPart, qNoPart, qNext, qFor, qiSeq, qiRng1, qiRng2, qiZip, qiEnum, qLc, seqSrc, lsrc, titems, litems, sitems, fz, newL, List.getElem?_cons_zero, List.getElem?_cons_succ, List.set_cons_zero, List.set_cons_succ, if_true, if_false, Bool.false_eq_true, ite_true, ite_false, up_same, reduceIte, decide_true, decide_false, true_and, and_true, eqv_int, eqv_bool, eqv_TI, eqv_LI, eqv_TT, eqv_LT, eqv_nilL, eqv_nilT, shaped_TI, shaped_LI, shaped_TT, shaped_LT, shaped_int, shaped_bool, shaped_nilL, shaped_nilT, dints_map2, dbools_map2, datas_map, mkT_map, mkT_0, mkT_1, mkT_2, mkT_3, List.length_map, List.length_cons, List.length_nil, List.length_append, List.map_cons, List.map_nil, wipeD, Bool.not_true, Bool.not_false, eq_self, not_true_eq_false, not_false_eq_true, kitB_tt, kitB_ll, kitB_dd, kitB_bb, kitB_ib, kitB_ii, kitB_ss, kitB_tl, kitB_lt, Function.comp, datas, Option.map_some, List.cons_append, List.nil_append, CPow, le_size4, Int.toNat_natCast, rngD0, I_eq, Bo_eq, BS.qSortB, in_IT, in_IL, in_TT, in_TL, qNotN, qIsN, qSortD, qListRg, qDispT, keyX_TI, qGet, qiItems, qLockE, qLockS, qPop, qMaxDf, qLc2, qMax1, qMin1, qAppend, qExtend, tints_TI, dv_TI, Option.bind_some, qRetN, atI_0, atI_1, atI_2, mk_appT, mk_snocI, idl, rep_I, Option.map_none, eqv_idl, shaped_idl, Bool.and_self, Bool.true_and, Bool.and_true]))
local macro_rules | `(tactic| walk_at "F") => `(tactic| (try simp only [qAsg, qRet, qDrop, qIfS, qTest, qAndT, qOrT, qNotT, qAndV, qOrV, qNotV, qIf, qOp, qUn, qChain, onB, qv, qc, qgN, qgT, qgCons, qgNil, qCons, qNil, qTup, qLst, qPar, qPar3, qAug, qCB, qCall, qLen, qTupleC, qListC, qMax2, qMin2, qIntC, qSum, qAny, qAll, qIsi, tyName, qAdd, qSub, qMul, qFdiv, qMod, qPow, qI2, qCmpI, qEq, qNe, qLt, qLe, qGt, qGe, qNeg, qIx, qDGet, qDIn, qDPut, qSl, qPart, qNoPart, qNext, qFor, qiRng1, qiRng2, qiZip, qiEnum, qLc, fz, newL, List.getElem?_cons_zero, List.getElem?_cons_succ, List.set_cons_zero, List.set_cons_succ, if_true, if_false, Bool.false_eq_true, ite_true, ite_false, up_same, reduceIte, decide_true, decide_false, true_and, and_true, eqv_int, eqv_bool, eqv_TI, eqv_LI, eqv_TT, eqv_LT, eqv_nilL, eqv_nilT, shaped_TI, shaped_LI, shaped_TT, shaped_LT, shaped_int, shaped_bool, shaped_nilL, shaped_nilT, dints_map2, dbools_map2, datas_map, mkT_map, mkT_0, mkT_1, mkT_2, mkT_3, List.length_map, List.length_cons, List.length_nil, List.length_append, List.map_cons, List.map_nil, wipeD, Bool.not_true, Bool.not_false, eq_self, not_true_eq_false, not_false_eq_true, kitB_tt, kitB_ll, kitB_dd, kitB_bb, kitB_ib, kitB_ii, kitB_ss, kitB_tl, kitB_lt, Function.comp, datas, Option.map_some, List.cons_append, List.nil_append, CPow, le_size4, Int.toNat_natCast, rngD0, I_eq, Bo_eq, BS.qSortB, in_IT, in_IL, in_TT, in_TL, qNotN, qIsN, qSortD, qListRg, qDispT, keyX_TI, qGet, qiItems, qLockE, qLockS, qPop, qMaxDf, qLc2, qMax1, qMin1, qAppend, qExtend, tints_TI, dv_TI, Option.bind_some, qRetN, atI_0, atI_1, atI_2, mk_appT, mk_snocI, idl, rep_I, Option.map_none, eqv_idl, shaped_idl, Bool.and_self, Bool.true_and, Bool.and_true]))
namespace UC
open PySem L2 DL RD
end UC
end
section
set_option Elab.async false
set_option linter.all false
set_option maxRecDepth 100000
set_option maxHeartbeats 1000000
open PySem L2 DL RD UC
local macro_rules | `(tactic| walk_at "E") => `(tactic| (try simp only [qAsg, qRet, qDrop, qIfS, qTest, qAndT, qOrT, qNotT, qAndV, qOrV, qNotV, qIf, qOp, qUn, qChain, onB, qv, qc, qgN, qgT, qgCons, qgNil, qCons, qNil, qTup, qLst, qPar, qPar3, qAug, qCB, qCall, qLen, qTupleC, qListC, qMax2, qMin2, qIntC, qSum, qAny, qAll, qIsi, tyName, qAdd, qSub, qMul, qFdiv, qMod, qPow, qI2, qCmpI, qEq, qNe, qLt, qLe, qGt, qGe, qNeg, qIx, qDGet, qDIn, qDPut, qSl, qPart, qNoPart, qNext, qFor, qiSeq, qiRng1, qiRng2, qiZip, qiEnum, qLc, seqSrc, lsrc, titems, litems, sitems, fz, newL, List.getElem?_cons_zero, List.getElem?_cons_succ, List.set_cons_zero, List.set_cons_succ, if_true, if_false, Bool.false_eq_true, ite_true, ite_false, up_same, reduceIte, decide_true, decide_false, true_and, and_true]))
local macro_rules | `(tactic| walk_at "D") => `(tactic| (try simp only [qAsg, qRet, qDrop, qIfS, qTest, qAndT, qOrT, qNotT, qAndV, qOrV, qNotV, qIf, qOp, qUn, qChain, onB, qv, qc, qgN, qgT, qgCons, qgNil, qCons, qNil, qTup, qLst, qPar, qPar3, qAug, qCB, qCall, qLen, qTupleC, qListC, qMax2, qMin2, qIntC, qSum, qAny, qAll, qIsi, tyName, qAdd, qSub, qMul, qFdiv, qMod, qPow, qI2, qCmpI, qEq, qNe, qLt, qLe, qGt, qGe, qNeg, qIx, qDGet, qDIn, qDPut, qSl, qPart, qNoPart, qNext, qFor, qiSeq, qiRng1, qiRng2, qiZip, qiEnum, qLc, seqSrc, lsrc, titems, litems, sitems, fz, newL, List.getElem?_cons_zero, List.getElem?_cons_succ, List.set_cons_zero, List.set_cons_succ, if_true, if_false, Bool.false_eq_true, ite_true, ite_false, up_same, reduceIte, decide_true, decide_false, true_and, and_true, eqv_int, eqv_bool, eqv_TI, eqv_LI, eqv_TT, eqv_LT, eqv_nilL, eqv_nilT, shaped_TI, shaped_LI, shaped_TT, shaped_LT, shaped_int, shaped_bool, shaped_nilL, shaped_nilT, dints_map2, dbools_map2, datas_map, mkT_map, mkT_0, mkT_1, mkT_2, mkT_3, List.length_map, List.length_cons, List.length_nil, List.length_append, List.map_cons, List.map_nil, wipeD, Bool.not_true, Bool.not_false, eq_self, not_true_eq_false, not_false_eq_true, kitB_tt, kitB_ll, kitB_dd, kitB_bb, kitB_ib, kitB_ii, kitB_ss, kitB_tl, kitB_lt, Function.comp, datas, Option.map_some, List.cons_append, List.nil_append, CPow, le_size4, Int.toNat_natCast, rngD0, I_eq, Bo_eq, BS.qSortB, in_IT, in_IL, in_TT, in_TL, qNotN, qIsN, qSortD, qListRg, qDispT, keyX_TI, qGet, qiItems, qLockE, qLockS, qPop, qMaxDf, qLc2, qMax1, qMin1, qAppend, qExtend, tints_TI, dv_TI, Option.bind_some, qRetN, atI_0, atI_1, atI_2, mk_appT, mk_snocI, idl, rep_I, Option.map_none, eqv_idl, shaped_idl, Bool.and_self, Bool.true_and, Bool.and_true]))
local macro_rules | `(tactic| walk_at "F") => `(tactic| (try simp only [qAsg, qRet, qDrop, qIfS, qTest, qAndT, qOrT, qNotT, qAndV, qOrV, qNotV, qIf, qOp, qUn, qChain, onB, qv, qc, qgN, qgT, qgCons, qgNil, qCons, qNil, qTup, qLst, qPar, qPar3, qAug, qCB, qCall, qLen, qTupleC, qListC, qMax2, qMin2, qIntC, qSum, qAny, qAll, qIsi, tyName, qAdd, qSub, qMul, qFdiv, qMod, qPow, qI2, qCmpI, qEq, qNe, qLt, qLe, qGt, qGe, qNeg, qIx, qDGet, qDIn, qDPut, qSl, qPart, qNoPart, qNext, qFor, qiRng1, qiRng2, qiZip, qiEnum, qLc, fz, newL, List.getElem?_cons_zero, List.getElem?_cons_succ, List.set_cons_zero, List.set_cons_succ, if_true, if_false, Bool.false_eq_true, ite_true, ite_false, up_same, reduceIte, decide_true, decide_false, true_and, and_true, eqv_int, eqv_bool, eqv_TI, eqv_LI, eqv_TT, eqv_LT, eqv_nilL, eqv_nilT, shaped_TI, shaped_LI, shaped_TT, shaped_LT, shaped_int, shaped_bool, shaped_nilL, shaped_nilT, dints_map2, dbools_map2, datas_map, mkT_map, mkT_0, mkT_1, mkT_2, mkT_3, List.length_map, List.length_cons, List.length_nil, List.length_append, List.map_cons, List.map_nil, wipeD, Bool.not_true, Bool.not_false, eq_self, not_true_eq_false, not_false_eq_true, kitB_tt, kitB_ll, kitB_dd, kitB_bb, kitB_ib, kitB_ii, kitB_ss, kitB_tl, kitB_lt, Function.comp, datas, Option.map_some, List.cons_append, List.nil_append, CPow, le_size4, Int.toNat_natCast, rngD0, I_eq, Bo_eq, BS.qSortB, in_IT, in_IL, in_TT, in_TL, qNotN, qIsN, qSortD, qListRg, qDispT, keyX_TI, qGet, qiItems, qLockE, qLockS, qPop, qMaxDf, qLc2, qMax1, qMin1, qAppend, qExtend, tints_TI, dv_TI, Option.bind_some, qRetN, atI_0, atI_1, atI_2, mk_appT, mk_snocI, idl, rep_I, Option.map_none, eqv_idl, shaped_idl, Bool.and_self, Bool.true_and, Bool.and_true]))
namespace UC
open PySem L2 DL RD
end UC
end
section
set_option Elab.async false
set_option linter.all false
set_option maxRecDepth 100000
set_option maxHeartbeats 1000000
open PySem L2 DL RD UC
local macro_rules | `(tactic| walk_at "E") => `(tactic| (try simp only [qAsg, qRet, qDrop, qIfS, qTest, qAndT, qOrT, qNotT, qAndV, qOrV, qNotV, qIf, qOp, qUn, qChain, onB, qv, qc, qgN, qgT, qgCons, qgNil, qCons, qNil, qTup, qLst, qPar, qPar3, qAug, qCB, qCall, qLen, qTupleC, qListC, qMax2, qMin2, qIntC, qSum, qAny, qAll, qIsi, tyName, qAdd, qSub, qMul, qFdiv, qMod, qPow, qI2, qCmpI, qEq, qNe, qLt, qLe, qGt, qGe, qNeg, qIx, qDGet, qDIn, qDPut, qSl, qPart, qNoPart, qNext, qFor, qiSeq, qiRng1, qiRng2, qiZip, qiEnum, qLc, seqSrc, lsrc, titems, litems, sitems, fz, newL, List.getElem?_cons_zero, List.getElem?_cons_succ, List.set_cons_zero, List.set_cons_succ, if_true, if_false, Bool.false_eq_true, ite_true, ite_false, up_same, reduceIte, decide_true, decide_false, true_and, and_true]))
local macro_rules | `(tactic| walk_at "D") => `(tactic| (try simp only [qAsg, qRet, qDrop, qIfS, qTest, qAndT, qOrT, qNotT, qAndV, qOrV, qNotV, qIf, qOp, qUn, qChain, onB, qv, qc, qgN, qgT, qgCons, qgNil, qCons, qNil, qTup, qLst, qPar, qPar3, qAug, qCB, qCall, qLen, qTupleC, qListC, qMax2, qMin2, qIntC, qSum, qAny, qAll, qIsi, tyName, qAdd, qSub, qMul, qFdiv, qMod, qPow, qI2, qCmpI, qEq, qNe, qLt, qLe, qGt, qGe, qNeg, qIx, qDGet, qDIn, qDPut, qSl, qPart, qNoPart, qNext, qFor, qiSeq, qiRng1, qiRng2, qiZip, qiEnum, qLc, seqSrc, lsrc, titems, litems, sitems, fz, newL, List.getElem?_cons_zero, List.getElem?_cons_succ, List.set_cons_zero, List.set_cons_succ, if_true, if_false, Bool.false_eq_true, ite_true, ite_false, up_same, reduceIte, decide_true, decide_false, true_and, and_true, eqv_int, eqv_bool, eqv_TI, eqv_LI, eqv_TT, eqv_LT, eqv_nilL, eqv_nilT, shaped_TI, shaped_LI, shaped_TT, shaped_LT, shaped_int, shaped_bool, shaped_nilL, shaped_nilT, dints_map2, dbools_map2, datas_map, mkT_map, mkT_0, mkT_1, mkT_2, mkT_3, List.length_map, List.length_cons, List.length_nil, List.length_append, List.map_cons, List.map_nil, wipeD, Bool.not_true, Bool.not_false, eq_self, not_true_eq_false, not_false_eq_true, kitB_tt, kitB_ll, kitB_dd, kitB_bb, kitB_ib, kitB_ii, kitB_ss, kitB_tl, kitB_lt, Function.comp, datas, Option.map_some, List.cons_append, List.nil_append, CPow, le_size4, Int.toNat_natCast, rngD0, I_eq, Bo_eq, BS.qSortB, in_IT, in_IL, in_TT, in_TL, qNotN, qIsN, qSortD, qListRg, qDispT, keyX_TI, qGet, qiItems, qLockE, qLockS, qPop, qMaxDf, qLc2, qMax1, qMin1, qAppend, qExtend, tints_TI, dv_TI, Option.bind_some, qRetN, atI_0, atI_1, atI_2, mk_appT, mk_snocI, idl, rep_I, Option.map_none, eqv_idl, shaped_idl, Bool.and_self, Bool.true_and, Bool.and_true]))
local macro_rules | `(tactic| walk_at "F") => `(tactic| (try simp only [qAsg, qRet, qDrop, qIfS, qTest, qAndT, qOrT, qNotT, qAndV, qOrV, qNotV, qIf, qOp, qUn, qChain, onB, qv, qc, qgN, qgT, qgCons, qgNil, qCons, qNil, qTup, qLst, qPar, qPar3, qAug, qCB, qCall, qLen, qTupleC, qListC, qMax2, qMin2, qIntC, qSum, qAny, qAll, qIsi, tyName, qAdd, qSub, qMul, qFdiv, qMod, qPow, qI2, qCmpI, qEq, qNe, qLt, qLe, qGt, qGe, qNeg, qIx, qDGet, qDIn, qDPut, qSl, qPart, qNoPart, qNext, qFor, qiRng1, qiRng2, qiZip, qiEnum, qLc, fz, newL, List.getElem?_cons_zero, List.getElem?_cons_succ, List.set_cons_zero, List.set_cons_succ, if_true, if_false, Bool.false_eq_true, ite_true, ite_false, up_same, reduceIte, decide_true, decide_false, true_and, and_true, eqv_int, eqv_bool, eqv_TI, eqv_LI, eqv_TT, eqv_LT, eqv_nilL, eqv_nilT, shaped_TI, shaped_LI, shaped_TT, shaped_LT, shaped_int, shaped_bool, shaped_nilL, shaped_nilT, dints_map2, dbools_map2, datas_map, mkT_map, mkT_0, mkT_1, mkT_2, mkT_3, List.length_map, List.length_cons, List.length_nil, List.length_append, List.map_cons, List.map_nil, wipeD, Bool.not_true, Bool.not_false, eq_self, not_true_eq_false, not_false_eq_true, kitB_tt, kitB_ll, kitB_dd, kitB_bb, kitB_ib, kitB_ii, kitB_ss, kitB_tl, kitB_lt, Function.comp, datas, Option.map_some, List.cons_append, List.nil_append, CPow, le_size4, Int.toNat_natCast, rngD0, I_eq, Bo_eq, BS.qSortB, in_IT, in_IL, in_TT, in_TL, qNotN, qIsN, qSortD, qListRg, qDispT, keyX_TI, qGet, qiItems, qLockE, qLockS, qPop, qMaxDf, qLc2, qMax1, qMin1, qAppend, qExtend, tints_TI, dv_TI, Option.bind_some, qRetN, atI_0, atI_1, atI_2, mk_appT, mk_snocI, idl, rep_I, Option.map_none, eqv_idl, shaped_idl, Bool.and_self, Bool.true_and, Bool.and_true]))
namespace UC
open PySem L2 DL RD
end UC
end
section
set_option Elab.async false
set_option linter.all false
set_option maxRecDepth 100000
set_option maxHeartbeats 1000000
namespace UC
open PySem L2 DL RD
/-- those below a monomial, exponent by exponent -/
def Bel (n : Nat) (c a : List Int) : Prop := a.length = n ∧ ∀ j < n, 0 ≤ gd a j ∧ gd a j ≤ gd c j
theorem Bel.nn {n : Nat} {c a : List Int} (h : Bel n c a) : NN n a := nn_of_gd h.1 fun j hj => (h.2 j hj).1
end UC
end
section
set_option Elab.async false
set_option linter.all false
set_option maxRecDepth 100000
set_option maxHeartbeats 1000000
namespace UC
open PySem L2 DL RD
end UC
end
section
set_option Elab.async false
set_option linter.all false
set_option maxRecDepth 100000
set_option maxHeartbeats 1000000
open PySem L2 DL RD UC
local macro_rules | `(tactic| walk_at "E") => `(tactic| (try simp only [qAsg, qRet, qDrop, qIfS, qTest, qAndT, qOrT, qNotT, qAndV, qOrV, qNotV, qIf, qOp, qUn, qChain, onB, qv, qc, qgN, qgT, qgCons, qgNil, qCons, qNil, qTup, qLst, qPar, qPar3, qAug, qCB, qCall, qLen, qTupleC, qListC, qMax2, qMin2, qIntC, qSum, qAny, qAll, qIsi, tyName, qAdd, qSub, qMul, qFdiv, qMod, qPow, qI2, qCmpI, qEq, qNe, qLt, qLe, qGt, qGe, qNeg, qIx, qDGet, qDIn, qDPut, qSl, qPart, qNoPart, qNext, qFor, qiSeq, qiRng1, qiRng2, qiZip, qiEnum, qLc, seqSrc, lsrc, titems, litems, sitems, fz, newL, List.getElem?_cons_zero, List.getElem?_cons_succ, List.set_cons_zero, List.set_cons_succ, if_true, if_false, Bool.false_eq_true, ite_true, ite_false, up_same, reduceIte, decide_true, decide_false, true_and, and_true]))
local macro_rules | `(tactic| walk_at "D") => `(tactic| (try simp only [qAsg, qRet, qDrop, qIfS, qTest, qAndT, qOrT, qNotT, qAndV, qOrV, qNotV, qIf, qOp, qUn, qChain, onB, qv, qc, qgN, qgT, qgCons, qgNil, qCons, qNil, qTup, qLst, qPar, qPar3, qAug, qCB, qCall, qLen, qTupleC, qListC, qMax2, qMin2, qIntC, qSum, qAny, qAll, qIsi, tyName, qAdd, qSub, qMul, qFdiv, qMod, qPow, qI2, qCmpI, qEq, qNe, qLt, qLe, qGt, qGe, qNeg, qIx, qDGet, qDIn, qDPut, qSl, qPart, qNoPart, qNext, qFor, qiSeq, qiRng1, qiRng2, qiZip, qiEnum, qLc, seqSrc, lsrc, titems, litems, sitems, fz, newL, List.getElem?_cons_zero, List.getElem?_cons_succ, List.set_cons_zero, List.set_cons_succ, if_true, if_false, Bool.false_eq_true, ite_true, ite_false, up_same, reduceIte, decide_true, decide_false, true_and, and_true, eqv_int, eqv_bool, eqv_TI, eqv_LI, eqv_TT, eqv_LT, eqv_nilL, eqv_nilT, shaped_TI, shaped_LI, shaped_TT, shaped_LT, shaped_int, shaped_bool, shaped_nilL, shaped_nilT, dints_map2, dbools_map2, datas_map, mkT_map, mkT_0, mkT_1, mkT_2, mkT_3, List.length_map, List.length_cons, List.length_nil, List.length_append, List.map_cons, List.map_nil, wipeD, Bool.not_true, Bool.not_false, eq_self, not_true_eq_false, not_false_eq_true, kitB_tt, kitB_ll, kitB_dd, kitB_bb, kitB_ib, kitB_ii, kitB_ss, kitB_tl, kitB_lt, Function.comp, datas, Option.map_some, List.cons_append, List.nil_append, CPow, le_size4, Int.toNat_natCast, rngD0, I_eq, Bo_eq, BS.qSortB, in_IT, in_IL, in_TT, in_TL, qNotN, qIsN, qSortD, qListRg, qDispT, keyX_TI, qGet, qiItems, qLockE, qLockS, qPop, qMaxDf, qLc2, qMax1, qMin1, qAppend, qExtend, tints_TI, dv_TI, Option.bind_some, qRetN, atI_0, atI_1, atI_2, mk_appT, mk_snocI, idl, rep_I, Option.map_none, eqv_idl, shaped_idl, Bool.and_self, Bool.true_and, Bool.and_true]))
local macro_rules | `(tactic| walk_at "F") => `(tactic| (try simp only [qAsg, qRet, qDrop, qIfS, qTest, qAndT, qOrT, qNotT, qAndV, qOrV, qNotV, qIf, qOp, qUn, qChain, onB, qv, qc, qgN, qgT, qgCons, qgNil, qCons, qNil, qTup, qLst, qPar, qPar3, qAug, qCB, qCall, qLen, qTupleC, qListC, qMax2, qMin2, qIntC, qSum, qAny, qAll, qIsi, tyName, qAdd, qSub, qMul, qFdiv, qMod, qPow, qI2, qCmpI, qEq, qNe, qLt, qLe, qGt, qGe, qNeg, qIx, qDGet, qDIn, qDPut, qSl, qPart, qNoPart, qNext, qFor, qiRng1, qiRng2, qiZip, qiEnum, qLc, fz, newL, List.getElem?_cons_zero, List.getElem?_cons_succ, List.set_cons_zero, List.set_cons_succ, if_true, if_false, Bool.false_eq_true, ite_true, ite_false, up_same, reduceIte, decide_true, decide_false, true_and, and_true, eqv_int, eqv_bool, eqv_TI, eqv_LI, eqv_TT, eqv_LT, eqv_nilL, eqv_nilT, shaped_TI, shaped_LI, shaped_TT, shaped_LT, shaped_int, shaped_bool, shaped_nilL, shaped_nilT, dints_map2, dbools_map2, datas_map, mkT_map, mkT_0, mkT_1, mkT_2, mkT_3, List.length_map, List.length_cons, List.length_nil, List.length_append, List.map_cons, List.map_nil, wipeD, Bool.not_true, Bool.not_false, eq_self, not_true_eq_false, not_false_eq_true, kitB_tt, kitB_ll, kitB_dd, kitB_bb, kitB_ib, kitB_ii, kitB_ss, kitB_tl, kitB_lt, Function.comp, datas, Option.map_some, List.cons_append, List.nil_append, CPow, le_size4, Int.toNat_natCast, rngD0, I_eq, Bo_eq, BS.qSortB, in_IT, in_IL, in_TT, in_TL, qNotN, qIsN, qSortD, qListRg, qDispT, keyX_TI, qGet, qiItems, qLockE, qLockS, qPop, qMaxDf, qLc2, qMax1, qMin1, qAppend, qExtend, tints_TI, dv_TI, Option.bind_some, qRetN, atI_0, atI_1, atI_2, mk_appT, mk_snocI, idl, rep_I, Option.map_none, eqv_idl, shaped_idl, Bool.and_self, Bool.true_and, Bool.and_true]))
namespace UC
open PySem L2 DL RD
abbrev cutS (A : List (List Int)) (f : List Int) : List (List Int) := A.map fun a => cutL a f
end UC
end
section
set_option Elab.async false
set_option linter.all false
set_option maxRecDepth 100000
set_option maxHeartbeats 1000000
namespace UC
open PySem L2 DL RD
section
variable {n : Nat} {A B : List (List Int)} {st : Sto} {Q : DV → Sto → Prop}
abbrev J (n : Nat) (A : List (List Int)) : Prop := Idl n ((3 : Nat) : Int) 49 A
end
end UC
end
section
set_option Elab.async false
set_option linter.all false
set_option maxRecDepth 100000
set_option maxHeartbeats 1000000
namespace UC
open PySem L2 DL RD
def Unit1 (n : Nat) (q : List Int) : Prop := q.length = n ∧ ∀ j < n, gd q j = 0 ∨ gd q j = 1
theorem Unit1.nn {n : Nat} {q : List Int} (h : Unit1 n q) : NN n q := nn_of_gd h.1 fun j hj => by rcases h.2 j hj with e | e <;> omega
/-- how many exponents are positive -/
def posL (p : List Int) : Nat := (p.filter fun x => decide (0 < x)).length
def coverB (G : List (List Int)) (q : List Int) : Prop := ∀ g ∈ G, holdsB q g = true
/-- the least number of variables of a component is that of a set that meets all generators -/
structure MinCov (n : Nat) (G : List (List Int)) (m : Nat) : Prop where
  ex : ∃ q, Unit1 n q ∧ coverB G q ∧ posL q = m
  le : ∀ q, Unit1 n q → coverB G q → m ≤ posL q
theorem MinCov.uniq {n : Nat} {G H : List (List Int)} {m k : Nat} (a : MinCov n G m) (b : MinCov n H k) (h : ∀ q, Unit1 n q → (coverB G q ↔ coverB H q)) : m = k := by
  obtain ⟨q, h1, h2, h3⟩ := a.ex
  obtain ⟨r, h4, h5, h6⟩ := b.ex
  have := b.le q h1 ((h q h1).mp h2)
  have := a.le r h4 ((h r h4).mpr h5)
  omega
end UC
end
section
set_option Elab.async false
set_option linter.all false
set_option maxRecDepth 100000
set_option maxHeartbeats 1000000
namespace UC
open PySem L2 DL RD
theorem mem_supp {n : Nat} {p : List Int} (hp : p.length = n) {x : Int} : x ∈ suppL p ↔ ∃ j < n, 0 < gd p j ∧ x = (j : Int) := by
  unfold suppL
  rw [zipIdx_range, hp]
  simp only [List.mem_map, List.mem_filter, List.mem_range, decide_eq_true_eq]
  constructor
  · rintro ⟨z, ⟨⟨j, hj, rfl⟩, h⟩, rfl⟩
    exact ⟨j, hj, h, rfl⟩
  · rintro ⟨j, hj, h, rfl⟩
    exact ⟨_, ⟨⟨j, hj, rfl⟩, h⟩, rfl⟩
end UC
end
section
set_option Elab.async false
set_option linter.all false
set_option maxRecDepth 100000
set_option maxHeartbeats 1000000
namespace UC
open PySem L2 DL RD
theorem nodup_len : ∀ {L U : List (List Int)}, L.Nodup → (∀ x ∈ L, x ∈ U) → L.length ≤ U.length
  | [], _, _, _ => Nat.zero_le _
  | x :: L, U, nd, h => by
    obtain ⟨h1, h2⟩ := List.nodup_cons.mp nd
    have hx := h x List.mem_cons_self
    have := nodup_len (L := L) (U := U.erase x) h2 fun y hy => (List.mem_erase_of_ne fun e => h1 (by rw [← e]; exact hy)).mpr (h y (List.mem_cons_of_mem _ hy))
    rw [List.length_erase_of_mem hx] at this
    have hp : 0 < U.length := List.length_pos_of_mem hx
    rw [List.length_cons]
    omega
/-- one power of the variable m exchanged for one of j -/
def mvL (a : List Int) (m j : Nat) : List Int := (List.range a.length).map fun k => gd a k - (if k = m then 1 else 0) + (if k = j then 1 else 0)
theorem len_mv (a : List Int) (m j : Nat) : (mvL a m j).length = a.length := by unfold mvL; rw [List.length_map, List.length_range]
theorem gd_mv {a : List Int} {m j k : Nat} (h : k < a.length) : gd (mvL a m j) k = gd a k - (if k = m then 1 else 0) + (if k = j then 1 else 0) := by
  unfold mvL
  unfold gd
  rw [List.getD_eq_getElem?_getD, List.getElem?_map, List.getElem?_range h]
  rfl
theorem nn_mv {n : Nat} {a : List Int} {m j : Nat} (ha : NN n a) (hm : 0 < gd a m) : NN n (mvL a m j) := by
  refine nn_of_gd ((len_mv a m j).trans ha.1) fun k hk => ?_
  have hk' : k < a.length := by rw [ha.1]; exact hk
  rw [gd_mv hk']
  have := ha.at hk
  by_cases e : k = m
  · subst e
    rw [if_pos rfl]
    split <;> omega
  · rw [if_neg e]
    split <;> omega
theorem self_range (a : List Int) : (List.range a.length).map (gd a) = a := by
  refine (gd_ext (by rw [List.length_map, List.length_range]) rfl).mpr fun j hj => ?_
  unfold gd
  rw [List.getD_eq_getElem?_getD, List.getElem?_map, List.getElem?_range hj]
  rfl
theorem sum_ind (m : Nat) : ∀ n, m < n → ((List.range n).map fun k => if k = m then (1 : Int) else 0).sum = 1
  | n + 1, h => by
    rw [List.range_succ, List.map_append, List.sum_append]
    by_cases e : m = n
    · subst e
      have z : ((List.range m).map fun k => if k = m then (1 : Int) else 0) = (List.range m).map fun _ => (0 : Int) := List.map_congr_left fun k hk => if_neg (Nat.ne_of_lt (List.mem_range.mp hk))
      have z2 : ((List.range m).map fun _ => (0 : Int)).sum = 0 := by
        clear z h
        induction m with
        | zero => rfl
        | succ m ih => rw [List.range_succ, List.map_append, List.sum_append, ih]; rfl
      rw [z, z2]
      simp
    · rw [sum_ind m n (by omega)]
      simp [Ne.symm e]
theorem sum_add3 (f g h : Nat → Int) : ∀ l : List Nat, (l.map fun k => f k - g k + h k).sum = (l.map f).sum - (l.map g).sum + (l.map h).sum
  | [] => by simp
  | k :: l => by
    rw [List.map_cons, List.sum_cons, sum_add3 f g h l, List.map_cons, List.sum_cons, List.map_cons, List.sum_cons, List.map_cons, List.sum_cons]
    omega
theorem sum_mv {a : List Int} {m j : Nat} (hm : m < a.length) (hj : j < a.length) : (mvL a m j).sum = a.sum := by
  unfold mvL
  rw [sum_add3 (gd a) (fun k => if k = m then 1 else 0) (fun k => if k = j then 1 else 0), self_range, sum_ind m _ hm, sum_ind j _ hj]
  omega
theorem lt_of_pos {a : List Int} {m : Nat} (h : 0 < gd a m) : m < a.length := by
  rcases Nat.lt_or_ge m a.length with k | k
  · exact k
  · unfold gd at h
    rw [List.getD_eq_getElem?_getD, List.getElem?_eq_none k] at h
    exact absurd h (by decide)
/-- what exchanges make of some monomials -/
inductive Cl (S : List (List Int)) : List Int → Prop
  | of {a : List Int} : a ∈ S → Cl S a
  | mv {a : List Int} {m j : Nat} : Cl S a → 0 < gd a m → j < m → Cl S (mvL a m j)
theorem Cl.mono {S T : List (List Int)} (h : ∀ x ∈ S, x ∈ T) {a : List Int} (c : Cl S a) : Cl T a := by
  induction c with
  | of h1 => exact .of (h _ h1)
  | mv _ h2 h3 ih => exact .mv ih h2 h3
theorem Cl.nn {n : Nat} {S : List (List Int)} (hS : NNs n S) {a : List Int} (c : Cl S a) : NN n a := by
  induction c with
  | of h => exact hS _ h
  | mv _ h2 h3 ih => exact nn_mv ih h2
theorem Cl.sum {S : List (List Int)} {a : List Int} (c : Cl S a) : ∃ s ∈ S, a.sum = s.sum := by
  induction c with
  | of h => exact ⟨_, h, rfl⟩
  | mv _ h2 h3 ih =>
    obtain ⟨s, hs, e⟩ := ih
    have hm := lt_of_pos h2
    exact ⟨s, hs, (sum_mv hm (Nat.lt_trans h3 hm)).trans e⟩
/-- the generators of what contains some monomials and all exchanges -/
def IsHull (n : Nat) (S H : List (List Int)) : Prop := ∃ F, (∀ x ∈ F, x.length = n) ∧ H = minL F ∧ ∀ c, c.length = n → (inL F c = true ↔ ∃ x, Cl S x ∧ divB x c = true)
theorem hull_uniq {n : Nat} {S H H' : List (List Int)} (h : IsHull n S H) (h' : IsHull n S H') : H = H' := by
  obtain ⟨F, l1, rfl, e1⟩ := h
  obtain ⟨F', l2, rfl, e2⟩ := h'
  refine min_ext l1 l2 fun c hc => ?_
  rw [in_min l1 hc, in_min l2 hc, ← inL_iff, ← inL_iff, e1 c hc, e2 c hc]
theorem hull_same {n : Nat} {S T H : List (List Int)} (h : ∀ x, x ∈ S ↔ x ∈ T) (k : IsHull n S H) : IsHull n T H := by
  obtain ⟨F, l1, e, e1⟩ := k
  exact ⟨F, l1, e, fun c hc => (e1 c hc).trans ⟨fun ⟨x, hx, d⟩ => ⟨x, hx.mono fun y hy => (h y).mp hy, d⟩, fun ⟨x, hx, d⟩ => ⟨x, hx.mono fun y hy => (h y).mpr hy, d⟩⟩⟩
theorem hull_in {n : Nat} {S H : List (List Int)} (h : IsHull n S H) {c : List Int} (hc : c.length = n) : inL H c = true ↔ ∃ x, Cl S x ∧ divB x c = true := by
  obtain ⟨F, l1, rfl, e1⟩ := h
  rw [in_min l1 hc, ← inL_iff, e1 c hc]
theorem hull_of {n : Nat} {S F : List (List Int)} (hS : NNs n S) (h1 : ∀ x ∈ F, Cl S x) (h2 : ∀ x, Cl S x → inL F x = true) : IsHull n S (minL F) := by
  have lF : ∀ x ∈ F, x.length = n := fun x hx => ((h1 x hx).nn hS).1
  refine ⟨F, lF, rfl, fun c hc => ⟨fun h => ?_, fun ⟨x, hx, d⟩ => ?_⟩⟩
  · obtain ⟨g, hg, d⟩ := inL_iff.mp h
    exact ⟨g, h1 g hg, d⟩
  · obtain ⟨g, hg, d2⟩ := inL_iff.mp (h2 x hx)
    exact inL_iff.mpr ⟨g, hg, divB_trans (lF g hg) (hx.nn hS).1 hc d2 d⟩
/-- an ideal that goes along with exchanges of its generators goes along with all -/
theorem in_mv {n : Nat} {F : List (List Int)} (hF : NNs n F) (h : ∀ g ∈ F, ∀ m j, 0 < gd g m → j < m → inL F (mvL g m j) = true) {a : List Int} (ha : NN n a) (hin : inL F a = true) {m j : Nat} (hm : 0 < gd a m) (hj : j < m) : inL F (mvL a m j) = true := by
  obtain ⟨g, hg, d⟩ := inL_iff.mp hin
  have ng := hF g hg
  have hd := (divB_iff ng.1 ha.1).mp d
  have hmn : m < n := by rw [← ha.1]; exact lt_of_pos hm
  have nm := nn_mv (j := j) ha hm
  by_cases hgm : 0 < gd g m
  · obtain ⟨k, hk, d2⟩ := inL_iff.mp (h g hg m j hgm hj)
    have nk := hF k hk
    have ngm := nn_mv (j := j) ng hgm
    refine inL_iff.mpr ⟨k, hk, divB_trans nk.1 ngm.1 nm.1 d2 ((divB_iff ngm.1 nm.1).mpr fun i hi => ?_)⟩
    rw [gd_mv (by rw [ng.1]; exact hi), gd_mv (by rw [ha.1]; exact hi)]
    have := hd i hi
    omega
  · refine inL_iff.mpr ⟨g, hg, (divB_iff ng.1 nm.1).mpr fun i hi => ?_⟩
    rw [gd_mv (by rw [ha.1]; exact hi)]
    have h1 := hd i hi
    have h2 := ng.at hi
    by_cases e : i = m
    · subst e
      rw [if_pos rfl]
      have := ng.at hi
      split <;> omega
    · rw [if_neg e]
      split <;> omega
theorem cl_in {n : Nat} {S F : List (List Int)} (hS : NNs n S) (hF : NNs n F) (h0 : ∀ s ∈ S, inL F s = true) (h : ∀ g ∈ F, ∀ m j, 0 < gd g m → j < m → inL F (mvL g m j) = true) {x : List Int} (c : Cl S x) : inL F x = true := by
  induction c with
  | of hs => exact h0 _ hs
  | mv c h2 h3 ih => exact in_mv hF h (c.nn hS) ih h2 h3
/-- a generator's exchange that does not lie in the ideal -/
def Bad (G : List (List Int)) (p m j : Nat) : Prop := p < G.length ∧ 0 < gd (G.getD p []) m ∧ j < m ∧ inL G (mvL (G.getD p []) m j) = false
def ltT (x y : Nat × Nat × Nat) : Prop := x.1 < y.1 ∨ x.1 = y.1 ∧ (x.2.1 < y.2.1 ∨ x.2.1 = y.2.1 ∧ x.2.2 < y.2.2)
/-- the first one, or none -/
def FirstS (G : List (List Int)) : Option (Nat × Nat × Nat) → Prop
  | none => ∀ p m j, ¬ Bad G p m j
  | some t => Bad G t.1 t.2.1 t.2.2 ∧ ∀ p m j, ltT (p, m, j) t → ¬ Bad G p m j
theorem first_uniq {G : List (List Int)} : ∀ {r r' : Option (Nat × Nat × Nat)}, FirstS G r → FirstS G r' → r = r'
  | none, none, _, _ => rfl
  | none, some t, h, h' => absurd h'.1 (h _ _ _)
  | some t, none, h, h' => absurd h.1 (h' _ _ _)
  | some (p, m, j), some (p', m', j'), h, h' => by
    have h1 : ¬ ltT (p, m, j) (p', m', j') := fun z => h'.2 _ _ _ z h.1
    have h2 : ¬ ltT (p', m', j') (p, m, j) := fun z => h.2 _ _ _ z h'.1
    unfold ltT at h1 h2
    simp only at h1 h2
    have e1 : p = p' := by omega
    have e2 : m = m' := by omega
    have e3 : j = j' := by omega
    rw [e1, e2, e3]
/-- the last variable of a monomial -/
def Last (a : List Int) (m : Nat) : Prop := 0 < gd a m ∧ ∀ k, m < k → ¬ 0 < gd a k
def BadW (G : List (List Int)) (p j : Nat) : Prop := ∃ m, Last (G.getD p []) m ∧ Bad G p m j
def FirstW (G : List (List Int)) : Option (Nat × Nat) → Prop
  | none => ∀ p j, ¬ BadW G p j
  | some t => BadW G t.1 t.2 ∧ ∀ p j, p < t.1 ∨ p = t.1 ∧ j < t.2 → ¬ BadW G p j
theorem firstw_uniq {G : List (List Int)} : ∀ {r r' : Option (Nat × Nat)}, FirstW G r → FirstW G r' → r = r'
  | none, none, _, _ => rfl
  | none, some t, h, h' => absurd h'.1 (h _ _)
  | some t, none, h, h' => absurd h.1 (h' _ _)
  | some (p, j), some (p', j'), h, h' => by
    have h1 : ¬ (p < p' ∨ p = p' ∧ j < j') := fun z => h'.2 _ _ z h.1
    have h2 : ¬ (p' < p ∨ p' = p ∧ j' < j) := fun z => h.2 _ _ z h'.1
    have e1 : p = p' := by omega
    have e2 : j = j' := by omega
    rw [e1, e2]
theorem strong_weak {G : List (List Int)} (h : FirstS G none) {r : Option (Nat × Nat)} (k : FirstW G r) : r = none := by
  cases r with
  | none => rfl
  | some t =>
    obtain ⟨m, _, hb⟩ := k.1
    exact absurd hb (h _ _ _)
/-- an ideal is its hull exactly if no exchange fails -/
theorem hull_self {n : Nat} {G H : List (List Int)} (hG : NNs n G) (hm : minL G = G) (h : IsHull n G H) {r : Option (Nat × Nat × Nat)} (k : FirstS G r) : H = G ↔ r = none := by
  constructor
  · intro e
    cases r with
    | none => rfl
    | some t =>
      obtain ⟨⟨b1, b2, b3, b4⟩, _⟩ := k
      have hg : G.getD t.1 [] ∈ G := by
        rw [List.getD_eq_getElem?_getD, List.getElem?_eq_getElem b1]
        exact List.getElem_mem b1
      have c : Cl G (mvL (G.getD t.1 []) t.2.1 t.2.2) := .mv (.of hg) b2 b3
      have := (hull_in h (c.nn hG).1).mpr ⟨_, c, divB_refl _⟩
      rw [e, b4] at this
      cases this
  · intro e
    subst e
    have k' : IsHull n G (minL G) := hull_of hG (fun x hx => .of hx) fun x c => cl_in hG hG (fun s hs => inL_iff.mpr ⟨s, hs, divB_refl s⟩) (fun g hg m j h1 h2 => by
      obtain ⟨p, hp, e⟩ := List.mem_iff_getElem.mp hg
      cases q : inL G (mvL g m j) with
      | true => rfl
      | false =>
        have e2 : G.getD p [] = g := by rw [List.getD_eq_getElem?_getD, List.getElem?_eq_getElem hp]; exact e
        exact absurd ⟨hp, by rw [e2]; exact h1, h2, by rw [e2]; exact q⟩ (k p m j)) c
    rw [hm] at k'
    exact hull_uniq h k'
/-- monomials none of which divides another one, by their degree -/
theorem few_upto {n D : Nat} (hn : 1 ≤ n) {L : List (List Int)} (nd : L.Nodup) (nn : NNs n L) (hd : ∀ a ∈ L, a.sum ≤ D) (anti : ∀ a ∈ L, ∀ b ∈ L, divB a b = true → a = b) : L.length ≤ (degR n D).length := by
  let f : List Int → List Int := fun a => mulL a ((D - a.sum) :: List.replicate (n - 1) 0)
  have lz : ∀ z : Int, (z :: List.replicate (n - 1) 0).length = n := fun z => by rw [List.length_cons, List.length_replicate]; omega
  have g0 : ∀ (z : Int) (j : Nat), gd (z :: List.replicate (n - 1) 0) j = if j = 0 then z else 0 := fun z j => by
    cases j with
    | zero => rfl
    | succ j =>
      rw [if_neg (by omega)]
      unfold gd
      rw [List.getD_cons_succ, List.getD_eq_getElem?_getD]
      by_cases h : j < n - 1
      · rw [List.getElem?_replicate, if_pos h]; rfl
      · rw [List.getElem?_replicate, if_neg h]; rfl
  have key := nodup_len (L := L.map f) (U := degR n D) ?_ ?_
  · rw [List.length_map] at key
    exact key
  · refine List.pairwise_map.mpr (List.Pairwise.imp_of_mem (fun {a b} ha hb hab e => hab ?_) nd)
    have na := nn a ha
    have nb := nn b hb
    have e2 : ∀ j < n, gd (f a) j = gd (f b) j := fun j _ => by rw [e]
    have le : ∀ {a b : List Int}, NN n a → NN n b → (∀ j < n, gd (f a) j = gd (f b) j) → b.sum ≤ a.sum → divB a b = true → True := fun _ _ _ _ _ => trivial
    have cmp : ∀ {a b : List Int}, NN n a → NN n b → (∀ j < n, gd (f a) j = gd (f b) j) → a.sum ≤ b.sum → divB a b = true := fun {a b} na nb e2 hs => by
      refine (divB_iff na.1 nb.1).mpr fun j hj => ?_
      have := e2 j hj
      simp only [f] at this
      unfold mulL at this
      rw [gd_zw na.1 (lz _) hj, gd_zw nb.1 (lz _) hj, g0, g0] at this
      split at this <;> omega
    rcases Int.le_total a.sum b.sum with h | h
    · exact anti a ha b hb (cmp na nb e2 h)
    · exact (anti b hb a ha (cmp nb na (fun j hj => (e2 j hj).symm) h)).symm
  · intro x hx
    obtain ⟨a, ha, rfl⟩ := List.mem_map.mp hx
    have na := nn a ha
    have hs := hd a ha
    have nz : NN n ((D - a.sum) :: List.replicate (n - 1) 0) := by
      refine ⟨lz _, fun y hy => ?_⟩
      rcases List.mem_cons.mp hy with rfl | hy
      · omega
      · rw [(List.mem_replicate.mp hy).2]
        decide
    refine mem_degR.mpr ⟨nn_mul na nz, ?_⟩
    simp only [f]
    rw [sum_mul (na.1.trans nz.1.symm), List.sum_cons]
    have : (List.replicate (n - 1) (0 : Int)).sum = 0 := by
      induction n - 1 with
      | zero => rfl
      | succ k ih => rw [List.replicate_succ, List.sum_cons, ih]; rfl
    rw [this]
    omega
theorem degR_56 {n D : Nat} (hn : n ≤ 4) (hD : D ≤ 5) : (degR n D).length ≤ 56 := by
  have : ∀ n ≤ 4, ∀ D ≤ 5, (degR n D).length ≤ 56 := by decide +kernel
  exact this n hn D hD
end UC
end
section
set_option Elab.async false
set_option linter.all false
set_option maxRecDepth 100000
set_option maxHeartbeats 1000000
open PySem L2 DL RD UC
local macro_rules | `(tactic| walk_at "E") => `(tactic| (try simp only [qAsg, qRet, qDrop, qIfS, qTest, qAndT, qOrT, qNotT, qAndV, qOrV, qNotV, qIf, qOp, qUn, qChain, onB, qv, qc, qgN, qgT, qgCons, qgNil, qCons, qNil, qTup, qLst, qPar, qPar3, qAug, qCB, qCall, qLen, qTupleC, qListC, qMax2, qMin2, qIntC, qSum, qAny, qAll, qIsi, tyName, qAdd, qSub, qMul, qFdiv, qMod, qPow, qI2, qCmpI, qEq, qNe, qLt, qLe, qGt, qGe, qNeg, qIx, qDGet, qDIn, qDPut, qSl, qPart, qNoPart, qNext, qFor, qiSeq, qiRng1, qiRng2, qiZip, qiEnum, qLc, seqSrc, lsrc, titems, litems, sitems, fz, newL, List.getElem?_cons_zero, List.getElem?_cons_succ, List.set_cons_zero, List.set_cons_succ, if_true, if_false, Bool.false_eq_true, ite_true, ite_false, up_same, reduceIte, decide_true, decide_false, true_and, and_true]))
local macro_rules | `(tactic| walk_at "D") => `(tactic| (try simp only [qAsg, qRet, qDrop, qIfS, qTest, qAndT, qOrT, qNotT, qAndV, qOrV, qNotV, qIf, qOp, qUn, qChain, onB, qv, qc, qgN, qgT, qgCons, qgNil, qCons, qNil, qTup, qLst, qPar, qPar3, qAug, qCB, qCall, qLen, qTupleC, qListC, qMax2, qMin2, qIntC, qSum, qAny, qAll, qIsi, tyName, qAdd, qSub, qMul, qFdiv, qMod, qPow, qI2, qCmpI, qEq, qNe, qLt, qLe, qGt, qGe, qNeg, qIx, qDGet, qDIn, qDPut, qSl, qPart, qNoPart, qNext, qFor, qiSeq, qiRng1, qiRng2, qiZip, qiEnum, qLc, seqSrc, lsrc, titems, litems, sitems, fz, newL, List.getElem?_cons_zero, List.getElem?_cons_succ, List.set_cons_zero, List.set_cons_succ, if_true, if_false, Bool.false_eq_true, ite_true, ite_false, up_same, reduceIte, decide_true, decide_false, true_and, and_true, eqv_int, eqv_bool, eqv_TI, eqv_LI, eqv_TT, eqv_LT, eqv_nilL, eqv_nilT, shaped_TI, shaped_LI, shaped_TT, shaped_LT, shaped_int, shaped_bool, shaped_nilL, shaped_nilT, dints_map2, dbools_map2, datas_map, mkT_map, mkT_0, mkT_1, mkT_2, mkT_3, List.length_map, List.length_cons, List.length_nil, List.length_append, List.map_cons, List.map_nil, wipeD, Bool.not_true, Bool.not_false, eq_self, not_true_eq_false, not_false_eq_true, kitB_tt, kitB_ll, kitB_dd, kitB_bb, kitB_ib, kitB_ii, kitB_ss, kitB_tl, kitB_lt, Function.comp, datas, Option.map_some, List.cons_append, List.nil_append, CPow, le_size4, Int.toNat_natCast, rngD0, I_eq, Bo_eq, BS.qSortB, in_IT, in_IL, in_TT, in_TL, qNotN, qIsN, qSortD, qListRg, qDispT, keyX_TI, qGet, qiItems, qLockE, qLockS, qPop, qMaxDf, qLc2, qMax1, qMin1, qAppend, qExtend, tints_TI, dv_TI, Option.bind_some, qRetN, atI_0, atI_1, atI_2, mk_appT, mk_snocI, idl, rep_I, Option.map_none, eqv_idl, shaped_idl, Bool.and_self, Bool.true_and, Bool.and_true]))
local macro_rules | `(tactic| walk_at "F") => `(tactic| (try simp only [qAsg, qRet, qDrop, qIfS, qTest, qAndT, qOrT, qNotT, qAndV, qOrV, qNotV, qIf, qOp, qUn, qChain, onB, qv, qc, qgN, qgT, qgCons, qgNil, qCons, qNil, qTup, qLst, qPar, qPar3, qAug, qCB, qCall, qLen, qTupleC, qListC, qMax2, qMin2, qIntC, qSum, qAny, qAll, qIsi, tyName, qAdd, qSub, qMul, qFdiv, qMod, qPow, qI2, qCmpI, qEq, qNe, qLt, qLe, qGt, qGe, qNeg, qIx, qDGet, qDIn, qDPut, qSl, qPart, qNoPart, qNext, qFor, qiRng1, qiRng2, qiZip, qiEnum, qLc, fz, newL, List.getElem?_cons_zero, List.getElem?_cons_succ, List.set_cons_zero, List.set_cons_succ, if_true, if_false, Bool.false_eq_true, ite_true, ite_false, up_same, reduceIte, decide_true, decide_false, true_and, and_true, eqv_int, eqv_bool, eqv_TI, eqv_LI, eqv_TT, eqv_LT, eqv_nilL, eqv_nilT, shaped_TI, shaped_LI, shaped_TT, shaped_LT, shaped_int, shaped_bool, shaped_nilL, shaped_nilT, dints_map2, dbools_map2, datas_map, mkT_map, mkT_0, mkT_1, mkT_2, mkT_3, List.length_map, List.length_cons, List.length_nil, List.length_append, List.map_cons, List.map_nil, wipeD, Bool.not_true, Bool.not_false, eq_self, not_true_eq_false, not_false_eq_true, kitB_tt, kitB_ll, kitB_dd, kitB_bb, kitB_ib, kitB_ii, kitB_ss, kitB_tl, kitB_lt, Function.comp, datas, Option.map_some, List.cons_append, List.nil_append, CPow, le_size4, Int.toNat_natCast, rngD0, I_eq, Bo_eq, BS.qSortB, in_IT, in_IL, in_TT, in_TL, qNotN, qIsN, qSortD, qListRg, qDispT, keyX_TI, qGet, qiItems, qLockE, qLockS, qPop, qMaxDf, qLc2, qMax1, qMin1, qAppend, qExtend, tints_TI, dv_TI, Option.bind_some, qRetN, atI_0, atI_1, atI_2, mk_appT, mk_snocI, idl, rep_I, Option.map_none, eqv_idl, shaped_idl, Bool.and_self, Bool.true_and, Bool.and_true]))
namespace UC
open PySem L2 DL RD
end UC
end
section
set_option Elab.async false
set_option linter.all false
set_option maxRecDepth 100000
set_option maxHeartbeats 1000000
open PySem L2 DL RD UC
local macro_rules | `(tactic| walk_at "E") => `(tactic| (try simp only [qAsg, qRet, qDrop, qIfS, qTest, qAndT, qOrT, qNotT, qAndV, qOrV, qNotV, qIf, qOp, qUn, qChain, onB, qv, qc, qgN, qgT, qgCons, qgNil, qCons, qNil, qTup, qLst, qPar, qPar3, qAug, qCB, qCall, qLen, qTupleC, qListC, qMax2, qMin2, qIntC, qSum, qAny, qAll, qIsi, tyName, qAdd, qSub, qMul, qFdiv, qMod, qPow, qI2, qCmpI, qEq, qNe, qLt, qLe, qGt, qGe, qNeg, qIx, qDGet, qDIn, qDPut, qSl, qPart, qNoPart, qNext, qFor, qiSeq, qiRng1, qiRng2, qiZip, qiEnum, qLc, seqSrc, lsrc, titems, litems, sitems, fz, newL, List.getElem?_cons_zero, List.getElem?_cons_succ, List.set_cons_zero, List.set_cons_succ, if_true, if_false, Bool.false_eq_true, ite_true, ite_false, up_same, reduceIte, decide_true, decide_false, true_and, and_true]))
local macro_rules | `(tactic| walk_at "D") => `(tactic| (try simp only [qAsg, qRet, qDrop, qIfS, qTest, qAndT, qOrT, qNotT, qAndV, qOrV, qNotV, qIf, qOp, qUn, qChain, onB, qv, qc, qgN, qgT, qgCons, qgNil, qCons, qNil, qTup, qLst, qPar, qPar3, qAug, qCB, qCall, qLen, qTupleC, qListC, qMax2, qMin2, qIntC, qSum, qAny, qAll, qIsi, tyName, qAdd, qSub, qMul, qFdiv, qMod, qPow, qI2, qCmpI, qEq, qNe, qLt, qLe, qGt, qGe, qNeg, qIx, qDGet, qDIn, qDPut, qSl, qPart, qNoPart, qNext, qFor, qiSeq, qiRng1, qiRng2, qiZip, qiEnum, qLc, seqSrc, lsrc, titems, litems, sitems, fz, newL, List.getElem?_cons_zero, List.getElem?_cons_succ, List.set_cons_zero, List.set_cons_succ, if_true, if_false, Bool.false_eq_true, ite_true, ite_false, up_same, reduceIte, decide_true, decide_false, true_and, and_true, eqv_int, eqv_bool, eqv_TI, eqv_LI, eqv_TT, eqv_LT, eqv_nilL, eqv_nilT, shaped_TI, shaped_LI, shaped_TT, shaped_LT, shaped_int, shaped_bool, shaped_nilL, shaped_nilT, dints_map2, dbools_map2, datas_map, mkT_map, mkT_0, mkT_1, mkT_2, mkT_3, List.length_map, List.length_cons, List.length_nil, List.length_append, List.map_cons, List.map_nil, wipeD, Bool.not_true, Bool.not_false, eq_self, not_true_eq_false, not_false_eq_true, kitB_tt, kitB_ll, kitB_dd, kitB_bb, kitB_ib, kitB_ii, kitB_ss, kitB_tl, kitB_lt, Function.comp, datas, Option.map_some, List.cons_append, List.nil_append, CPow, le_size4, Int.toNat_natCast, rngD0, I_eq, Bo_eq, BS.qSortB, in_IT, in_IL, in_TT, in_TL, qNotN, qIsN, qSortD, qListRg, qDispT, keyX_TI, qGet, qiItems, qLockE, qLockS, qPop, qMaxDf, qLc2, qMax1, qMin1, qAppend, qExtend, tints_TI, dv_TI, Option.bind_some, qRetN, atI_0, atI_1, atI_2, mk_appT, mk_snocI, idl, rep_I, Option.map_none, eqv_idl, shaped_idl, Bool.and_self, Bool.true_and, Bool.and_true]))
local macro_rules | `(tactic| walk_at "F") => `(tactic| (try simp only [qAsg, qRet, qDrop, qIfS, qTest, qAndT, qOrT, qNotT, qAndV, qOrV, qNotV, qIf, qOp, qUn, qChain, onB, qv, qc, qgN, qgT, qgCons, qgNil, qCons, qNil, qTup, qLst, qPar, qPar3, qAug, qCB, qCall, qLen, qTupleC, qListC, qMax2, qMin2, qIntC, qSum, qAny, qAll, qIsi, tyName, qAdd, qSub, qMul, qFdiv, qMod, qPow, qI2, qCmpI, qEq, qNe, qLt, qLe, qGt, qGe, qNeg, qIx, qDGet, qDIn, qDPut, qSl, qPart, qNoPart, qNext, qFor, qiRng1, qiRng2, qiZip, qiEnum, qLc, fz, newL, List.getElem?_cons_zero, List.getElem?_cons_succ, List.set_cons_zero, List.set_cons_succ, if_true, if_false, Bool.false_eq_true, ite_true, ite_false, up_same, reduceIte, decide_true, decide_false, true_and, and_true, eqv_int, eqv_bool, eqv_TI, eqv_LI, eqv_TT, eqv_LT, eqv_nilL, eqv_nilT, shaped_TI, shaped_LI, shaped_TT, shaped_LT, shaped_int, shaped_bool, shaped_nilL, shaped_nilT, dints_map2, dbools_map2, datas_map, mkT_map, mkT_0, mkT_1, mkT_2, mkT_3, List.length_map, List.length_cons, List.length_nil, List.length_append, List.map_cons, List.map_nil, wipeD, Bool.not_true, Bool.not_false, eq_self, not_true_eq_false, not_false_eq_true, kitB_tt, kitB_ll, kitB_dd, kitB_bb, kitB_ib, kitB_ii, kitB_ss, kitB_tl, kitB_lt, Function.comp, datas, Option.map_some, List.cons_append, List.nil_append, CPow, le_size4, Int.toNat_natCast, rngD0, I_eq, Bo_eq, BS.qSortB, in_IT, in_IL, in_TT, in_TL, qNotN, qIsN, qSortD, qListRg, qDispT, keyX_TI, qGet, qiItems, qLockE, qLockS, qPop, qMaxDf, qLc2, qMax1, qMin1, qAppend, qExtend, tints_TI, dv_TI, Option.bind_some, qRetN, atI_0, atI_1, atI_2, mk_appT, mk_snocI, idl, rep_I, Option.map_none, eqv_idl, shaped_idl, Bool.and_self, Bool.true_and, Bool.and_true]))
namespace UC
open PySem L2 DL RD
theorem enumD_of {α : Type} (f : α → PyData) : ∀ (a : List α), enumD ((a.map f).map DV.d) = a.zipIdx.map fun p => DV.d (.tuple [.int p.2, f p.1]) := by
  intro a
  unfold enumD
  rw [List.map_map, List.mapIdx_eq_zipIdx_map, List.zipIdx_map, List.map_map]
  rfl
theorem cutD_take {α : Type} (xs : List α) (k : Nat) : cutD xs none (some (k : Int)) = xs.take k := by
  unfold cutD
  rw [HT.sIx_nat, HT.sIx_none, Nat.sub_zero, List.drop_zero]
  by_cases h : k ≤ xs.length
  · rw [Nat.min_eq_left h]
  · rw [Nat.min_eq_right (by omega), List.take_length, List.take_of_length_le (by omega)]
end UC
end
section
set_option Elab.async false
set_option linter.all false
set_option maxRecDepth 100000
set_option maxHeartbeats 2000000
namespace L2
open PySem PySem.Spec PyProof.Rows
end L2
namespace DL
open PySem PySem.Spec L2 PyProof.Rows
variable [tB : Tb] [gR : Gr]
section
variable {P : Program} {w : World} {K : PySem.W.Frag} {mg : Str → Option Value} {base : Heap} {X : Cx} {N : List Str} {sc fs : Scope} {k : Nat}
theorem rvs_set {F : Hp} {v : V} {x : DV} (r : RV K F v x) : ∀ {vs : List V} {xs : List DV} (j : Nat), RVs K F vs xs → RVs K F (vs.set j v) (xs.set j x)
  | _, _, _, .nil => .nil
  | _ :: _, _ :: _, 0, .cons _ s => .cons r s
  | _ :: _, _ :: _, j + 1, .cons h s => .cons h (rvs_set r j s)
/-- xs[i] = v -/
def qLPut (to ti tv : TD) : TDs := fun D ε st => tv ε st fun v s1 => to ε s1 fun x s2 => ti ε s2 fun y s3 => match x, y with
  | .r a, .d (.int i) => ∃ xs j, s3 a = some (.lst xs) ∧ ixN xs.length i = some j ∧ D.nx ε (up s3 a (.lst (xs.set j v)))
  | _, _ => False
end
end DL
end
section
set_option Elab.async false
set_option linter.all false
set_option maxRecDepth 100000
set_option maxHeartbeats 2000000
namespace L2
open PySem PySem.Spec PyProof.Rows
end L2
namespace DL
open PySem PySem.Spec L2 PyProof.Rows
end DL
end
section
set_option Elab.async false
set_option linter.all false
set_option maxRecDepth 100000
set_option maxHeartbeats 2000000
namespace L2
open PySem PySem.Spec PyProof.Rows
/-- a promise that is kept where no guard stands -/
structure FnG (P : Program) (w : World) (K : PySem.W.Frag) (mg : Str → Option Value) (bs : Heap) (k : Nat) (f : Addr) (fd : FuncData) (ps : List Str) (sp : Sp) : Prop where
  lenG : ∀ vs H Q E, sp vs H Q E → vs.length = ps.length
  runG : ∀ (A : Around) (out : List Env) (s : Shared) (H : Hp) (ar : Args) (us : List Value) (vs : List V) (Q : VK) (E : XK), A.guards = some [] → Room k A → Env0 P w K mg bs A out s H → BindsTo s fd ar (ps.zip us) →
    Vals vs us → sp vs H Q E → codeAny (model P w) A (.call (.ref f) ar) (CR CX0 out P w H s Q E) s
theorem fnG_of {P : Program} {w : World} {K : PySem.W.Frag} {mg : Str → Option Value} {bs : Heap} {k : Nat} {f : Addr} {nm qual : Str} {pr : Arguments} {body : List Stmt} {sc : Scope} {dV kV dc pm cdv ct oc : Value} {an od : Option Addr}
    {sl : Array (Option Value)} {N ps : List Str} {sp : Sp} (look : K.lookup f = some ⟨oc, od, .func (PySem.W.fnOf nm qual pr body sc dV kV dc pm an cdv ct), sl⟩) (code : PySem.W.codeIn K cdv qual = true) (S : FnScope N ps sc)
    (hlen : ∀ vs H Q E, sp vs H Q E → vs.length = ps.length)
    (hb : ∀ (A : Around) (out : List Env) (s : Shared) (H : Hp) (vs : List V) (Q : VK) (E : XK), A.guards = some [] → Room k (A.deeper (envOfC qual sc s.heap.objs.size f cdv)) → sp vs H Q E →
      ∃ t, PSs (cxOf CX0 P w K mg bs N qual sc f cdv A out s H E) body t ∧ t { nx := fun _ H' => Q .non H', rt := Q } (start N vs) H) :
    FnG P w K mg bs (k + 1) f (PySem.W.fnOf nm qual pr body sc dV kV dc pm an cdv ct) ps sp := by
  refine ⟨hlen, fun A out s H ar us vs Q E hg room en bd rv hsp => ?_⟩
  have len1 := hlen _ _ _ _ hsp
  have inK : K.In s.heap := en.mod.kin.keeps fun b o e => (en.bs b o e).1
  have noLim : s.heap.NoLimit := en.mod.nolimit.keeps fun b o e => (en.bs b o e).1
  have kinds : ∀ y ∈ ps.zip us, sc.names.lookup y.1 = some .local ∨ (sc.names.lookup y.1 = some .cell ∧ ((cellsFrom (s.heap.objs.size + 1) sc.names []).lookup y.1).isSome = true) := fun ⟨n, v⟩ hy =>
    (S.par n (List.of_mem_zip hy).1).elim (fun q => .inl q) fun q => .inr ⟨q, PySem.W.cellsFrom_some _ _ _ (.inl q)⟩
  refine codeAny_call_function room.depth (inK _ _ look) rfl S.co S.gen rfl (PySem.W.codeRec_of inK code) (bd _ _ _ _ (wpAny_newFunctionEnv_cells S.kind kinds fun env he s1 xi => ?_))
  cases he
  refine ⟨noLim.keeps xi.toInCall.keep, codeAny_func ?_⟩
  obtain ⟨t, ht, hq⟩ := hb A out s H vs Q E hg (room.deeper _) hsp
  have J0 := inv_start (CX := CX0) (E := E) S room.hd en len1 rv xi
  refine wpAny_mono (ht.run [] s1 (start N vs) H _ J0 hq) (fun fl s' z => ?_) fun e s' z => z
  cases fl with
  | ret u => exact let ⟨v, _, H', J, r2, q⟩ := z; ⟨v, H', J.os, J.bare, J.base, J.hok, r2, q⟩
  | next => exact let ⟨_, H', J, q⟩ := z; ⟨V.non, H', J.os, J.bare, J.base, J.hok, rfl, q⟩
  | brk => exact let ⟨_, _, _, q⟩ := z; q.elim
  | cont => exact let ⟨_, _, _, q⟩ := z; q.elim
/-- the law's call, from such a promise -/
theorem law_callG {P : Program} {w : World} {K : PySem.W.Frag} {mg mb : Str → Option Value} {k : Nat} {fa a : Addr} {fd : FuncData} {x : Str} {sp : Sp} {s₁ : Shared} {vs : List Value} {ns : List Int}
    (inK : K.In s₁.heap) (nsM : s₁.heap.Ns mainGlobals mg) (nsB : s₁.heap.Ns builtinsNs mb) (boot : ∀ x : Str, x ≠ "__name__" → mb x = bootBuiltins x) (noL : s₁.heap.NoLimit) (gens : s₁.gens = #[])
    (at_a : s₁.heap.get? a = some { cls := .type "list", data := .seq vs.toArray }) (hin : IntsAre vs ns) (few : ns.length ≤ sizeLine) (room : Room k callerA)
    (F : ∀ bs : Heap, K.In bs → bs.Ns mainGlobals mg → FnG P w K mg bs k fa fd [x] sp) (bind : ∀ (s : Shared) (u : Value), BindsTo s fd ⟨[u], []⟩ [(x, u)])
    (want : ∀ H : Hp, Only H → SqL K H a (ns.map V.int) → sp [.ref a] H (fun v _ => v = .bl true) fun _ _ _ => False) :
    codeAny (model P w) callerA (.call (.ref fa) ⟨[.ref a], []⟩) (fun r s' => r = .ok (.ret (.bool true)) ∧ OldK s₁.heap s'.heap ∧ s'.os = s₁.os ∧ AllBare s'.gens) s₁ := by
  have rel := vals_ints hin
  have lenI := hin.length
  have main : ∀ H : Hp, Only H → SqL K H a (ns.map V.int) → HOk P w H s₁.heap → (∀ b, H b ≠ none → b = a) → (H a ≠ none → K.lookup a = none) →
      codeAny (model P w) callerA (.call (.ref fa) ⟨[.ref a], []⟩) (fun r s' => r = .ok (.ret (.bool true)) ∧ OldK s₁.heap s'.heap ∧ s'.os = s₁.os ∧ AllBare s'.gens) s₁ := by
    intro H only sq hok alone free
    have stay : ∀ {b : Addr} {o : Obj}, s₁.heap.get? b = some o → H b = none → (hidT s₁.heap H).get? b = some o := fun e n => hidT_get e n
    have dictNo : ∀ {b : Addr} {o : Obj} {es : Array DictEntry} {ep : Nat}, s₁.heap.get? b = some o → o.data = .dict es ep → H b = none := fun {b o es ep} e d =>
      Classical.byContradiction fun hne => by
        have z := alone b hne
        subst z
        have e2 := at_a.symm.trans e
        cases e2
        exact Data.noConfusion (show Data.seq vs.toArray _ = Data.dict es ep from d)
    have nsOf : ∀ {b : Addr} {m : Str → Option Value}, s₁.heap.Ns b m → (hidT s₁.heap H).Ns b m := fun {b m} ⟨o, es, ep, e, d, r⟩ => ⟨o, es, ep, stay e (dictNo e d), d, r⟩
    have inKb : K.In (hidT s₁.heap H) := fun b o e => stay (inK b o e) (Classical.byContradiction fun hne => by
      have z := alone b hne
      subst z
      have e3 := free hne
      rw [e3] at e
      cases e)
    have modl : Mod K mg (hidT s₁.heap H) := ⟨inKb, nsOf nsM, ⟨mb, nsOf nsB, boot⟩, let ⟨mc, h1, h2⟩ := noL; ⟨mc, nsOf h1, h2⟩⟩
    have en : Env0 P w K mg (hidT s₁.heap H) callerA [] s₁ H := ⟨rfl, modl, fun b o e => of_hidT e, Nat.le_of_eq (hidT_size _ _), trivial, (fun b hb => absurd (show b ∈ ([] : List Addr) from hb) (by simp)), hok, .of_eq gens⟩
    refine codeAny_mono ((F _ inKb (nsOf nsM)).runG callerA [] s₁ H ⟨[.ref a], []⟩ [.ref a] [.ref a] _ _ rfl room en (bind s₁ (.ref a)) (.cons rfl .nil) (want H only sq)) fun r s' z => ?_
    cases r with
    | error e => exact z.elim
    | ok fl =>
      cases fl with
      | next => exact z.elim
      | brk => exact z.elim
      | cont => exact z.elim
      | ret u =>
        obtain ⟨v, H', os, bare, un, hok', r', q⟩ := z
        have ev : v = .bl true := q
        subst ev
        have eu : u = Value.bool true := r'
        subst eu
        refine ⟨rfl, OldK.of_keep fun b o e => ?_, os, bare⟩
        cases hb : H b with
        | none => exact un.keep b o e hb (fun y => absurd (show b ∈ ([] : List Addr) from y) (by simp)) (by simp)
        | some u =>
          rcases only b with y | ⟨ob, xs, y⟩
          · exact absurd (hb.symm.trans y) (fun y => nomatch y)
          · have e1 := (hok b _ y).1
            have e2 := (hok' b _ (un.frzs b ob _ y)).1
            rw [e] at e1
            cases e1
            exact e2
  by_cases hk : K.lookup a = none
  · refine main (fun b => if b = a then some (.frz { cls := .type "list", data := .seq vs.toArray } (.lst (ns.map V.int))) else none) (fun b => ?_) (.inl (.inr ⟨{ cls := .type "list", data := .seq vs.toArray }, if_pos rfl⟩)) (fun b u z => ?_) (fun b z => ?_) fun _ => hk
    · by_cases e : b = a
      · exact .inr ⟨_, _, if_pos e⟩
      · exact .inl (if_neg e)
    · by_cases e : b = a
      · have z2 := (if_pos e).symm.trans z
        cases z2
        subst e
        exact ⟨at_a, by rw [List.length_map]; exact few, vs, _, rel, at_a⟩
      · have z2 := (if_neg e).symm.trans z
        cases z2
    · exact Classical.byContradiction fun e => z (if_neg e)
  · obtain ⟨o, ho⟩ := Option.ne_none_iff_exists'.mp hk
    have e := (inK a o ho).symm.trans at_a
    cases e
    refine main (fun _ => none) (fun _ => .inl rfl) (.inr ⟨_, vs.toArray, _, ho, rfl, rfl, rfl, ?_, ?_⟩) (fun b u z => nomatch z) (fun b z => absurd rfl z) fun z => absurd rfl z
    · rw [List.size_toArray, lenI]
      exact few
    · simpa using rel
theorem walk_ofG {l : PySem.W.OpenLaw} {n k : Nat} {q : Program} {loose : List Str} {XP : (Str → Option Value) → Heap → Prop} {YP : World → Heap → Prop} {d : DefRec} {K : Params → PySem.W.Frag} {sp : World → Sp} {x : Str}
    (hn : l.most = some n) (few : n ≤ sizeLine) (hdf : d.params.defaults = []) (room : Room k callerA)
    (hY : ∀ (w : World) (h : Heap), YP w h → (K w.params).In h)
    (F : ∀ (w : World) (mg : Str → Option Value) (fa : Addr) (h : Heap), (K w.params).In h → h.Ns mainGlobals mg → mg d.name = some (.ref fa) →
      ∃ fd : FuncData, (∀ (s : Shared) (u : Value), BindsTo s fd ⟨[u], []⟩ [(x, u)]) ∧ ∀ bs : Heap, (K w.params).In bs → bs.Ns mainGlobals mg → FnG l.prog w (K w.params) mg bs k fa fd [x] (sp w))
    (want : ∀ (w : World) (H : Hp) (a : Addr) (ns : List Int), ns.length ≤ n → Only H → SqL (K w.params) H a (ns.map V.int) → sp w [.ref a] H (fun v _ => v = .bl true) fun _ _ _ => False) :
    PySem.W.WalkO q loose XP YP l.row.toRowW d [] (fun f vs => PySem.call f vs) := by
  refine Att.attach_call hn hdf fun w s₀ s₁ mg mb fa o pm cd doc a vs ns G Y ho hd hcd hmg hobj hints hlen hg => ?_
  obtain ⟨fd, hb, hF⟩ := F w mg fa _ (hY w _ Y) G.T.g hmg
  exact law_callG (hY w _ Y) G.T.g G.T.b G.T.builtins G.T.nolimit hg hobj hints (Nat.le_trans hlen few) room hF hb fun H only sq => want w H a ns hlen only sq
end L2
end
section
set_option Elab.async false
set_option linter.all false
set_option maxRecDepth 100000
set_option maxHeartbeats 2000000
namespace DL
open PySem PySem.Spec L2 PyProof.Rows
variable [tB : Tb] [gR : Gr]
section
variable {P : Program} {w : World} {K : PySem.W.Frag} {mg : Str → Option Value} {base : Heap} {X : Cx} {N : List Str} {sc fs : Scope} {k : Nat}
omit gR in
theorem fnG_ok {x qual : Str} {s : Stmt} {f : Addr} {fd : FuncData} {ps : List Str} {sp : SpD} {t : TDs} (Fu : Fun K x qual s f fd) (S : FnScope N ps (defScope s)) (len : ∀ xs st Q, sp xs st Q → xs.length = ps.length)
    (body : ∀ [Gr] X, Cok P w K mg base X N (defScope s) (defScope s) k → X.A.guards = some [] → DSs X (defBody s) t)
    (sem : ∀ xs st Q, sp xs st Q → t { nx := fun _ st' => Fg Q (.d .none) st', rt := Fg Q } (startD N.length xs) st) : FnG P w K mg base (k + 1) f fd ps (hsp K sp) := by
  obtain ⟨oc, od, kV, doc, pm, an, cdv, ct, osl, rfl, lk, hcd⟩ := Fu.ex
  refine fnG_of lk hcd S (fun vs H Q E ⟨F, st, xs, Qd, R, r, h, kk⟩ => r.length.trans (len xs st Qd h)) fun A out s' H vs Q E hg hr ⟨F, st, xs, Qd, R, r, h, kk⟩ => ?_
  have c : Cok P w K mg base (cxOf CX0 P w K mg base N qual (defScope s) f cdv A out s' H E).nox N (defScope s) (defScope s) k :=
    ⟨rfl, rfl, rfl, rfl, rfl, rfl, S.nd, S.kind, rfl, rfl, fun _ _ => rfl, hr, fun _ _ h => h.elim⟩
  obtain ⟨ts, p, a⟩ := body _ c hg
  have fin : ∀ F' v H' x' st', Step F H st F' H' st' → Rs K F' H' st' → RV K F' v x' → Fg Qd x' st' → Q v H' := fun F' v H' x' st' t R' r' ⟨st2, le, q⟩ =>
    kk F' v H' x' st2 (t.less le) (R'.toRs0.le le).tr r' q
  refine ⟨ts, p.nox, a F _ H (startD N.length xs) st _ _ R.tr (start_re r N) (sem xs st Qd h) ⟨fun F' σ' H' ε' st' t R' E' q => fin F' .non H' (.d .none) st' t R' (.d .non) q, fin, fun _ _ _ _ _ _ _ _ z => z.elim, fun _ _ _ _ _ _ _ _ z => z.elim⟩⟩
theorem bb_repr : bootBuiltins "repr" = some (.builtin "repr") := by decide +kernel
def reprOk (d : PyData) : Prop := d.showable = true ∧ d.hasDict = false ∧ d.depth ≤ 16 ∧ d.shown.length ≤ sizeLine
def rRepr (K : PySem.W.Frag) : List V → Hp → VK → Prop := fun vs H Q => ∃ v d, vs = [v] ∧ Dp K H v d ∧ reprOk d ∧ (∀ x, d ≠ .str x) ∧ Q (.str d.shown) H
theorem cr_repr (hg : X.A.guards = some []) (hu : X.A.units + 64 < cLine) : CallR X (.builtin "repr") (rRepr X.K) := by
  intro pins s σ H vs us Q I r h
  obtain ⟨v, d, rfl, hd, ⟨h1, h2, h3, h4⟩, hs, q⟩ := h
  obtain ⟨u, rfl, ru⟩ := r.one
  obtain ⟨as, rd⟩ := Dp.reads I d v u hd ru
  have disp : ∀ {a : Addr}, u = .ref a → wpAny (model X.prog X.w) X.A (call (.builtin "repr") [u]) (EP X pins σ Q) X.xe s := fun {a} e => by
    subst e
    exact repr_of_reads' rd h1 (PyData.noDict_hsm h2) hg (by omega) (fun _ _ e => e) (fun h' u tk hk => ⟨.str d.shown, H, I.kept (t' := tk) hk, ⟨_, rfl⟩, q⟩) h4
  cases hd with
  | non =>
    cases ru
    exact PySem.P.repr_of_none ⟨.str _, H, I.tok _, ⟨_, rfl⟩, q⟩
  | bl b =>
    cases ru
    exact PySem.P.repr_of_bool ⟨.str _, H, I.tok _, ⟨_, rfl⟩, q⟩
  | int i =>
    obtain ⟨t, rfl⟩ := ru
    exact PySem.P.repr_of_int (of_decide_eq_true h1) ⟨.str _, H, I.tok _, ⟨_, rfl⟩, q⟩
  | str x => exact absurd rfl (hs x)
  | lst _ _ => exact disp ru
  | tup _ _ => exact disp ru
def qRepr : RLD := fun xs st Q => match xs with
  | [x] => (match fz st x with
    | some d => reprOk d ∧ (∀ x, d ≠ .str x) ∧ Q (.d (.str d.shown)) st
    | none => False)
  | _ => False
theorem c_repr (hg : X.A.guards = some []) (hu : X.A.units + 64 < cLine) : ∃ r', CallR X (.builtin "repr") r' ∧ SL X.K r' qRepr := by
  refine ⟨_, cr_repr hg hu, ?_⟩
  intro F H st vs xs Qd Q R rv h kk
  unfold qRepr at h
  split at h
  rotate_left
  · exact h.elim
  split at h
  rotate_left
  · exact h.elim
  rename_i d e
  obtain ⟨v, rfl, r⟩ := rvs1 rv
  exact ⟨v, d, rfl, fz_dp R r e, h.1, h.2.1, kk.at R (.d (.str _)) h.2.2⟩
def rStr (g : Str → Str → Bool) : V → V → Hp → VK → Prop := fun x y H Q => ∃ a b, x = .str a ∧ y = .str b ∧ Q (.bl (g a b)) H
theorem op_neS : OpR X (compareOp .NotEq) (rStr fun a b => a.cps.toList != b.cps.toList) := by
  intro pins s σ H x y v u Q I rx ry h
  obtain ⟨a, b, rfl, rfl, q⟩ := h
  obtain ⟨t, rfl⟩ := rx
  obtain ⟨t2, rfl⟩ := ry
  exact PySem.P.ne_str ⟨.bl _, H, I, rfl, q⟩
def qNeS : R2D := fun x y st Q => match x, y with
  | .d (.str a), .d (.str b) => Q (.d (.bool (a.cps.toList != b.cps.toList))) st
  | _, _ => False
theorem op_qNeS : ∃ r', OpR X (compareOp .NotEq) r' ∧ S2 X.K r' qNeS :=
  ⟨_, op_neS, fun F H st v w x y Qd Q R rv rw' h kk => by
    unfold qNeS at h
    split at h
    · cases rv_str rv; cases rv_str rw'
      exact ⟨_, _, rfl, rfl, kk.at R (.d (.bl _)) h⟩
    · exact h.elim⟩
end
end DL
end
section
set_option Elab.async false
set_option linter.all false
set_option maxRecDepth 100000
set_option maxHeartbeats 2000000
namespace L2
open PySem PySem.Spec PyProof.Rows
section
variable {X : Cx} {CX : CXT} {k j : Nat} {f : Addr} {fd : FuncData} {ps : List Str} {sp : Sp} {x : Str} {p pos : Pos} {e : Expr} {es : List Expr} {t : TA}
theorem FnG.mono {P : Program} {w : World} {K : PySem.W.Frag} {mg : Str → Option Value} {base : Heap} (F : FnG P w K mg base j f fd ps sp) (h : j ≤ k) : FnG P w K mg base k f fd ps sp :=
  ⟨F.lenG, fun A outer s H args us vs Q E hg hr => F.runG A outer s H args us vs Q E hg (hr.mono h)⟩
theorem run_fnG {pins : List (Addr × Obj)} {σ : St} {H : Hp} {s : Shared} {Q : VK} {us : List Value} {vs : List V} (hgd : X.A.guards = some []) (F : FnG X.prog X.w X.K X.mg X.base k f fd ps sp) (hr : Room k X.A) (hb : Binds X.K fd ps [])
    (I : Inv X pins σ H s) (r : Vals vs us) (h : sp vs H Q E0) : wpAny (model X.prog X.w) X.A (call (.ref f) us) (EP X pins σ Q) X.xe s := by
  have hl : us.length = ps.length := by rw [← r.length]; exact F.lenG _ _ _ _ h
  have b := hb s us I.kIn (by rw [List.append_nil]; exact hl)
  rw [List.append_nil] at b
  refine wpAny_call (codeAny_mono (F.runG X.A X.stack s H ⟨us, []⟩ us vs Q E0 hgd hr I.env0 b r h) fun r s' hq => ?_)
  cases r with
  | error e => exact pass0 pins σ H s e s' I hq
  | ok fl =>
    cases fl with
    | ret u => exact I.after hq
    | next => exact False.elim hq
    | brk => exact False.elim hq
    | cont => exact False.elim hq
theorem pe_callG (hgd : X.A.guards = some []) (F : FnG X.prog X.w X.K X.mg X.base k f fd ps sp) (hr : Room k X.A) (hg : Gl X x) (hm : X.mg x = some (.ref f)) (hk : PySem.W.keepIn X.K (.ref f) = true) (hb : Binds X.K fd ps [])
    (ha : PA X (e :: es) t) (hdb : (x == ("__debug__" : Str)) = false := by decide) (he : starEach (e :: es) X.env = (false, eval e X.env) :: starEach es X.env := by rfl) (hpl : (backTo pos (starEach es X.env)).any (·.1) = false := by rfl) :
    PE X (.Call (.Name x p) (e :: es) [] pos) (fun σ H Q => t σ H fun vs H1 => sp vs H1 Q E0) := by
  refine ⟨fun pins s σ H Q I h => ?_⟩
  refine wpAny_Call_Name_kw (ld_glob I hg hm ?_ hdb)
  refine PySem.W.callWith_K (h₀ := X.base) I.ok.mod.kin hk (thn (ha.run pos pins s σ H _ I h) fun us s1 ⟨vs, H1, I1, r, q⟩ => ⟨I1.kIn, ?_⟩) he hpl
  exact run_fnG hgd F hr hb I1 r q
end
end L2
namespace DL
open PySem PySem.Spec L2 PyProof.Rows
variable [tB : Tb] [gR : Gr]
section
variable {P : Program} {w : World} {K : PySem.W.Frag} {mg : Str → Option Value} {base : Heap} {X : Cx} {N : List Str} {sc fs : Scope} {k : Nat}
/-- a def of the text that keeps a promise where no guard stands -/
def ClG (P : Program) (w : World) (K : PySem.W.Frag) (mg : Str → Option Value) (base : Heap) (x : Str) (j : Nat) (sp : SpD) : Prop :=
  ∃ (f : Addr) (fd : FuncData) (ps : List Str), mg x = some (.ref f) ∧ PySem.W.keepIn K (.ref f) = true ∧ FnG P w K mg base j f fd ps (hsp K sp) ∧ Binds K fd ps []
theorem de_callG {x : Str} {e : Expr} {es : List Expr} {ta : TDa} {p pos : Pos} {sp : SpD} {j : Nat} (hgd : X.A.guards = some []) (c : Cok P w K mg base X N sc fs k) (hg : glB sc x = true) (C : ClG P w K mg base x j sp) (hj : j ≤ k)
    (ha : DA X (e :: es) ta) (he : starEach (e :: es) X.env = (false, eval e X.env) :: starEach es X.env := by rfl) (hpl : (backTo pos (starEach es X.env)).any (·.1) = false := by rfl) : DE X (.Call (.Name x p) (e :: es) [] pos) (qCall sp ta) := by
  obtain ⟨f, fd, ps, hm, hk, G, b⟩ := C
  obtain ⟨t1, p1, a1⟩ := ha
  obtain ⟨hX1, hX2, hX3, hX4, hX5, _⟩ := id c
  have g := gl_of c hg
  have G' : FnG X.prog X.w X.K X.mg X.base k f fd ps (hsp X.K sp) := by
    rw [hX1, hX2, hX3, hX4, hX5]
    exact G.mono hj
  refine ⟨⟨_, pe_callG hgd G' c.room g.1 (by rw [hX4]; exact hm) (by rw [hX3]; exact hk) (by rw [hX3]; exact b) p1 g.2.2 he hpl, fun F σ H ε st Qd Q R E h kk => ?_⟩⟩
  refine a1 F σ H ε st _ _ R E h fun F1 vs H1 xs s1 t1 R1 r q => ?_
  exact ⟨F1, s1, xs, Qd, R1.toRs0, r, q, (kk.step t1).tr R1⟩
end
end DL
end
section
set_option Elab.async false
set_option linter.all false
set_option maxRecDepth 100000
set_option maxHeartbeats 2000000
namespace L2
open PySem PySem.Spec PyProof.Rows
theorem bb_sorted2 : bootBuiltins "sorted" = some (.builtin "sorted") := by decide +kernel
end L2
namespace DL
open PySem PySem.Spec L2 PyProof.Rows
variable [tB : Tb] [gR : Gr]
def insI (x : Int) : List Int → List Int
  | [] => [x]
  | y :: l => if x < y then x :: y :: l else if x = y then y :: l else y :: insI x l
def sortIU : List Int → List Int
  | [] => []
  | x :: l => insI x (sortIU l)
theorem mem_insI {x y : Int} : ∀ {l : List Int}, y ∈ insI x l ↔ y = x ∨ y ∈ l
  | [] => by simp [insI]
  | z :: l => by
    rw [insI]
    split
    · simp
    · split
      · rename_i h
        subst h
        simp
      · rw [List.mem_cons, mem_insI (l := l), List.mem_cons]
        exact ⟨fun h => h.elim (fun h => .inr (.inl h)) fun h => h.elim .inl fun h => .inr (.inr h), fun h => h.elim (fun h => .inr (.inl h)) fun h => h.elim .inl fun h => .inr (.inr h)⟩
theorem mem_sortIU {y : Int} : ∀ {l : List Int}, y ∈ sortIU l ↔ y ∈ l
  | [] => by simp [sortIU]
  | x :: l => by rw [sortIU, mem_insI, mem_sortIU (l := l), List.mem_cons]
theorem asc_insI {x : Int} : ∀ {l : List Int}, l.Pairwise (· < ·) → (insI x l).Pairwise (· < ·)
  | [], _ => List.pairwise_singleton _ _
  | z :: l, h => by
    obtain ⟨h1, h2⟩ := List.pairwise_cons.mp h
    rw [insI]
    split
    · rename_i c
      exact List.pairwise_cons.mpr ⟨fun y hy => (List.mem_cons.mp hy).elim (fun e => e ▸ c) fun hy => Int.lt_trans c (h1 y hy), h⟩
    · split
      · exact h
      · refine List.pairwise_cons.mpr ⟨fun y hy => ?_, asc_insI h2⟩
        rcases mem_insI.mp hy with rfl | hy
        · omega
        · exact h1 y hy
theorem asc_sortIU : ∀ l : List Int, (sortIU l).Pairwise (· < ·)
  | [] => List.Pairwise.nil
  | x :: l => asc_insI (asc_sortIU l)
theorem asc_ext : ∀ {a b : List Int}, a.Pairwise (· < ·) → b.Pairwise (· < ·) → (∀ x, x ∈ a ↔ x ∈ b) → a = b
  | [], [], _, _, _ => rfl
  | [], y :: b, _, _, h => absurd ((h y).mpr List.mem_cons_self) List.not_mem_nil
  | x :: a, [], _, _, h => absurd ((h x).mp List.mem_cons_self) List.not_mem_nil
  | x :: a, y :: b, ha, hb, h => by
    obtain ⟨a1, a2⟩ := List.pairwise_cons.mp ha
    obtain ⟨b1, b2⟩ := List.pairwise_cons.mp hb
    have e : x = y := by
      rcases List.mem_cons.mp ((h x).mp List.mem_cons_self) with q | q
      · exact q
      · rcases List.mem_cons.mp ((h y).mpr List.mem_cons_self) with r | r
        · exact r.symm
        · have := b1 x q
          have := a1 y r
          omega
    subst e
    congr 1
    refine asc_ext a2 b2 fun z => ⟨fun hz => ?_, fun hz => ?_⟩
    · rcases List.mem_cons.mp ((h z).mp (List.mem_cons_of_mem _ hz)) with q | q
      · have := a1 z hz
        omega
      · exact q
    · rcases List.mem_cons.mp ((h z).mpr (List.mem_cons_of_mem _ hz)) with q | q
      · have := b1 z hz
        omega
      · exact q
section
variable {P : Program} {w : World} {K : PySem.W.Frag} {mg : Str → Option Value} {base : Heap} {X : Cx} {N : List Str} {sc fs : Scope} {k : Nat}
theorem rvs_ints {F : Hp} : ∀ ns : List Int, RVs K F (ns.map V.int) (ns.map fun i => .d (.int i))
  | [] => .nil
  | i :: ns => .cons (.d (.int i)) (rvs_ints ns)
end
end DL
end
section
set_option Elab.async false
set_option linter.all false
set_option maxRecDepth 100000
set_option maxHeartbeats 4000000
namespace CpComb
open PySem PySem.Spec
open Sem (wp)
end CpComb
end
section
set_option Elab.async false
set_option linter.all false
set_option maxRecDepth 100000
set_option maxHeartbeats 4000000
namespace CpComb
open PySem PySem.Spec CpRep
open Sem (wp)
end CpComb
end
section
set_option Elab.async false
set_option linter.all false
set_option maxRecDepth 100000
set_option maxHeartbeats 4000000
namespace CpComb
open PySem
end CpComb
end
section
set_option Elab.async false
set_option linter.all false
set_option maxRecDepth 100000
set_option maxHeartbeats 4000000
namespace L2
open PySem PySem.Spec PyProof.Rows CpComb
end L2
end
section
set_option Elab.async false
set_option linter.all false
set_option maxRecDepth 100000
set_option maxHeartbeats 4000000
namespace L2
open PySem PySem.Spec PyProof.Rows CpComb
end L2
end
section
set_option Elab.async false
set_option linter.all false
set_option maxRecDepth 100000
set_option maxHeartbeats 4000000
namespace L2
open PySem PySem.Spec PyProof.Rows CpComb
end L2
end
section
set_option Elab.async false
set_option linter.all false
set_option maxRecDepth 100000
set_option maxHeartbeats 4000000
namespace DL
open PySem PySem.Spec L2 PyProof.Rows CpComb
end DL
end
section
set_option Elab.async false
set_option linter.all false
set_option maxRecDepth 100000
set_option maxHeartbeats 4000000
namespace CpComb
open PySem PySem.Spec PyProof.Rows L2
abbrev tupO (ws : List Value) : Obj := { cls := .type "tuple", data := .seq ws.toArray }
section
variable {prog : Program} {w : World} {A : Around} {E : Value → Shared → Prop} {s : Shared} {it P : Addr} {us : List Value} {r i : Nat}
/-- the tuples that stand in the list so far -/
structure Got (h : Heap) (n0 : Nat) (S it : Addr) (Ts : List Addr) (L : List (List Value)) : Prop where
  len : Ts.length ≤ L.length
  at' : ∀ (j : Nat) T ws, Ts[j]? = some T → L[j]? = some ws → h.get? T = some (tupO ws)
  nd : Ts.Nodup
  ne : ∀ T ∈ Ts, T ≠ S ∧ T ≠ it ∧ n0 ≤ T ∧ T < h.objs.size
end
end CpComb
end
section
set_option Elab.async false
set_option linter.all false
set_option maxRecDepth 100000
set_option maxHeartbeats 400000
namespace CpComb
open PySem PySem.Spec PyProof.Rows L2
end CpComb
end
section
set_option Elab.async false
set_option linter.all false
set_option maxRecDepth 100000
set_option maxHeartbeats 4000000
namespace L2
open PySem PySem.Spec PyProof.Rows CpComb
section
variable {X : Cx} {pins : List (Addr × Obj)} {σ : St} {H : Hp} {s : Shared} {h' : Heap}
theorem Inv.more {H' : Hp} {t' : Nat} (I : Inv X pins σ H s) (k : ∀ b o, s.heap.get? b = some o → h'.get? b = some o) (eq : ∀ b o, s.heap.get? b = some o → H' b = H b) (hok : HOk X.prog X.w H' h') : Inv X pins σ H' { s with heap := h', toks := t' } := by
  have there : ∀ b u, H b = some u → ∃ o, s.heap.get? b = some o := fun b u e => objOk_get (I.hok b u e)
  refine I.un ⟨fun b ob q _ _ _ => k b ob q, fun b ob q _ _ _ => ⟨ob.slots, k b ob q⟩, fun b ob q n _ => by rw [eq b ob q]; exact n, fun b ob q _ => ⟨ob, k b ob q⟩, fun b xs q => ?_, fun b o u q => ?_, fun b ps q => ⟨#[], ?_⟩⟩ hok
  · obtain ⟨o, e⟩ := there b _ q
    rw [eq b o e]; exact q
  · obtain ⟨o', e⟩ := there b _ q
    rw [eq b o' e]; exact q
  · obtain ⟨o', e⟩ := there b _ q
    rw [eq b o' e, q]; simp
end
end L2
end
section
set_option Elab.async false
set_option linter.all false
set_option maxRecDepth 100000
set_option maxHeartbeats 4000000
namespace DL
open PySem PySem.Spec L2 PyProof.Rows CpComb
end DL
end
section
set_option Elab.async false
set_option linter.all false
set_option maxRecDepth 100000
set_option maxHeartbeats 2000000
namespace DL
open PySem PySem.Spec L2 PyProof.Rows
variable [tB : Tb] [gR : Gr]
section
variable {P : Program} {w : World} {K : PySem.W.Frag} {mg : Str → Option Value} {base : Heap} {X : Cx} {N : List Str} {sc fs : Scope} {k : Nat}
theorem RVs.rev {F : Hp} : ∀ {vs : List V} {xs : List DV}, RVs K F vs xs → RVs K F vs.reverse xs.reverse
  | _, _, .nil => .nil
  | _, _, .cons r t => by rw [List.reverse_cons, List.reverse_cons]; exact RVs.append (RVs.rev t) (.cons r .nil)
/-- xs[::-1] of a list -/
def qRevL (m : Bool) (te : TD) : TD := fun ε st Q => te ε st fun x s1 => match litems s1 x with
  | some xs => newL m xs.reverse s1 Q
  | none => False
theorem de_revL {e : Expr} {te : TD} {j : Nat} {p1 p2 p3 pos : Pos} (m : Bool) (h : DE X e te) : DE X (.Subscript e (.Slice none none (some (.UnaryOp .USub (.Constant (.int 1) j p1) p2)) p3) pos) (qRevL m te) := by
  obtain ⟨t1, p1, a1⟩ := h
  refine ⟨⟨_, pe_revL p1, fun F σ H ε st Qd Q R E h kk => ?_⟩⟩
  refine a1 F σ H ε st _ _ R E h fun F1 v H1 x s1 t R1 rv q => ?_
  split at q
  rotate_left
  · exact q.elim
  rename_i xs e1
  obtain ⟨a, vs, rfl, ha, rs⟩ := litems_rv R1 rv e1
  exact ⟨a, vs, rfl, ha, fun p hp => new_lst R1 rs.rev hp q (kk.step t)⟩
end
end DL
end
section
set_option Elab.async false
set_option linter.all false
set_option maxRecDepth 100000
set_option maxHeartbeats 2000000
namespace DL
open PySem PySem.Spec L2 PyProof.Rows
end DL
end
section
set_option Elab.async false
set_option linter.all false
set_option maxRecDepth 100000
set_option maxHeartbeats 4000000
namespace EX
open PySem PySem.Spec PySem.W PySem.Calls PyProof.Rows L2
end EX
end
section
set_option Elab.async false
set_option linter.all false
set_option maxRecDepth 100000
set_option maxHeartbeats 4000000
namespace DL
open PySem PySem.Spec L2 PyProof.Rows EX
variable [tB : Tb]
/-- of a call's exception: its class's name, its fields (the last one first), the store -/
abbrev XWc := Str → List (Str × DV) → Sto → Prop
def Fresh (H : Hp) (st : Sto) (dd : Addr) : Prop := H dd = none ∨ st dd ≠ none ∨ ∃ ps, H dd = some (.tbl ps)
theorem Fresh.back {F H F' H' : Hp} {st st' : Sto} {dd : Addr} (s : Step F H st F' H' st') (f : Fresh H' st' dd) : Fresh H st dd := by
  cases e : H dd with
  | none => exact .inl e
  | some u =>
    rcases tb_or u with ⟨ps, rfl⟩ | nt
    · exact .inr (.inr ⟨ps, e⟩)
    cases e2 : st dd with
    | some m => exact .inr (.inl (by rw [e2]; exact fun z => (nomatch z)))
    | none =>
      obtain ⟨h1, h2⟩ := s.pres dd u e nt e2
      rcases f with z | z | ⟨ps, z⟩
      · rw [h1] at z; cases z
      · exact absurd h2 z
      · rw [h1] at z; cases z; exact absurd rfl (nt ps)
abbrev PX (K : PySem.W.Frag) (F : Hp) (ws : List (Str × V)) (kvs : List (Str × DV)) : Prop := Paired (fun p q => p.1 = q.1 ∧ RV K F p.2 q.2) ws kvs
/-- the error classes without an own __init__: their errors have no dict -/
def bareN (x : Str) : Bool := decide (x ∈ (["NotComplex", "NotSquarefree", "NotCycle", "NotStable", "NotGraph", "NotTwo", "NotProper", "NothingLeft"] : List Str))
structure KX (K : PySem.W.Frag) (mg : Str → Option Value) (F H : Hp) (st : Sto) (W : XWc) (E : XK) : Prop where
  k : ∀ (F' H' : Hp) (st' : Sto) (x : Str) (C dd : Addr) (ws : List (Str × V)) (kvs : List (Str × DV)), Step F H st F' H' st' → Rs0 K F' H' st' → mg x = some (.ref C) → H' dd = some (.xd ws) → PX K F' ws kvs → Fresh H st dd → st' dd = none → F' dd = none → W x kvs st' → E (.ref C) (some dd) H'
  z : ∀ (F' H' : Hp) (st' : Sto) (x : Str) (C : Addr), Step F H st F' H' st' → Rs0 K F' H' st' → mg x = some (.ref C) → bareN x = true → W x [] st' → E (.ref C) none H'
theorem KX.step {K : PySem.W.Frag} {mg : Str → Option Value} {F H F1 H1 : Hp} {st st1 : Sto} {W : XWc} {E : XK} (k : KX K mg F H st W E) (s : Step F H st F1 H1 st1) : KX K mg F1 H1 st1 W E :=
  ⟨fun F' H' st' x C dd ws kvs t R hm hd pr fr sd fd w => k.k F' H' st' x C dd ws kvs (s.trans t) R hm hd pr (fr.back s) sd fd w, fun F' H' st' x C t R hm hb w => k.z F' H' st' x C (s.trans t) R hm hb w⟩
end DL
end
section
set_option Elab.async false
set_option linter.all false
set_option maxRecDepth 100000
set_option maxHeartbeats 4000000
namespace DL
open PySem PySem.Spec L2 PyProof.Rows EX
end DL
end
section
set_option Elab.async false
set_option linter.all false
set_option maxRecDepth 100000
set_option maxHeartbeats 4000000
namespace DL
open PySem PySem.Spec L2 PyProof.Rows EX
/-- what the written part says of an error class, for isinstance and for its fields -/
structure ExI (K : PySem.W.Frag) (C : Addr) : Prop where
  cl : (PySem.W.clsIn K C).isSome = true
  ga : PySem.W.findIn K (.ref C) "__getattribute__" = some (some (.builtin "BaseException.__getattribute__"))
  gt : PySem.W.findIn K (.ref C) "__getattr__" = some none
  sb : PySem.W.subIn K (.ref C) (.type "BaseException") = some true
  hd : PySem.W.hasDictIn K C = true
  ty : PySem.W.typeIn K (.ref C) = some (.type "type")
  ca : PySem.W.findIn K (.ref C) "__class__" = some (some (.builtin "object.__class__"))
  ob : PySem.W.mroIn K C (.type "object") = some true
structure ExG (K : PySem.W.Frag) : Prop where
  gs : PySem.W.specialIn K (.builtin "object.__class__") "__get__" = some (some (.builtin "getset_descriptor.__get__"))
  tk : PySem.W.takesIn K (.builtin "object.__class__") = some true
end DL
end
section
set_option Elab.async false
set_option linter.all false
set_option maxRecDepth 100000
set_option maxHeartbeats 4000000
namespace DL
open PySem PySem.Spec PySem.W L2 PyProof.Rows EX
variable [tB : Tb]
section
variable {P : Program} {w : World} {K : PySem.W.Frag} {mg : Str → Option Value} {base : Heap}
/-- the error classes of a text -/
structure ErrC (K : PySem.W.Frag) (mg : Str → Option Value) (flds : List Str) (x : Str) (C : Addr) : Prop where
  m : mg x = some (.ref C)
  ei : ExI K C
  nof : ∀ f ∈ flds, findIn K (.ref C) f = some none
structure Errs (K : PySem.W.Frag) (mg : Str → Option Value) (flds : List Str) (base' : Str) (L : List (Str × Addr)) : Prop where
  cls : ∀ p ∈ L, ErrC K mg flds p.1 p.2
  sub : ∀ p ∈ L, ∀ q ∈ L, subIn K (.ref p.2) (.ref q.2) = some (p.1 == q.1)
  bs : ∃ Cn, mg base' = some (.ref Cn) ∧ ExI K Cn ∧ ∀ p ∈ L, subIn K (.ref p.2) (.ref Cn) = some true
  glob : ExG K
variable {flds : List Str} {base' : Str} {L : List (Str × Addr)}
theorem Errs.one (E : Errs K mg flds base' L) {x : Str} {C : Addr} (hx : x ∈ L.map (·.1)) (hm : mg x = some (.ref C)) : (x, C) ∈ L := by
  obtain ⟨p, hp, rfl⟩ := List.mem_map.mp hx
  have z := (E.cls p hp).m
  rw [hm] at z
  cases z
  exact hp
end
end DL
namespace DL
open PySem PySem.Spec PySem.W L2 PyProof.Rows EX
end DL
end
section
set_option Elab.async false
set_option linter.all false
set_option maxRecDepth 100000
set_option maxHeartbeats 4000000
namespace DL
open PySem PySem.Spec L2 PyProof.Rows EX
end DL
end
section
set_option Elab.async false
set_option linter.all false
set_option maxRecDepth 100000
set_option maxHeartbeats 4000000
namespace DL
open PySem PySem.Spec L2 PyProof.Rows EX
variable [tB : Tb]
theorem mok_code {K : PySem.W.Frag} {F G : Hp} {c : Addr} {q : Str} {m : MO} (h : MOk K F G c m) (e : G c = some (LamX.CodeO c q)) : False := by
  unfold LamX.CodeO at e
  cases m with
  | lst _ => obtain ⟨_, h, _⟩ := h; rw [e] at h; cases h
  | dK _ => obtain ⟨_, h, _⟩ := h; rw [e] at h; cases h
  | dT _ => obtain ⟨_, h, _⟩ := h; rw [e] at h; cases h
  | ins _ _ => obtain ⟨_, _, h, _⟩ := h; rw [e] at h; cases h
  | lk _ _ _ => obtain ⟨h, _⟩ := h; rw [e] at h; cases h
  | xd _ => obtain ⟨_, h, _⟩ := h; rw [e] at h; cases h
/-- the table at P has grown -/
theorem Rs0.grown {K : PySem.W.Frag} {F H G : Hp} {st : Sto} {P : Addr} {q : Str} (R : Rs0 K F H st) (hT : (P, q) ∈ tB.T) (hu : ∀ p ∈ tB.T, p.1 = P → p.2 = q) (e1 : ∀ b o, b ≠ P → H b = some o → G b = some o) (T1 : LamX.TabS G P q) :
    Rs0 K F G st ∧ Step F H st F G st := by
  obtain ⟨f0, s0, ps, hP, _, _⟩ := R.tb _ hT
  have f0 : F P = none := f0
  have s0 : st P = none := s0
  have hP : H P = some (.tbl ps) := hP
  have ok : ∀ a m, st a = some m → MOk K F G a m := fun a m h => by
    obtain ⟨o, e⟩ := (R.ok a m h).some
    exact MOk.mono (fun _ _ z => z) ((e1 a o (fun z => by rw [z, s0] at h; cases h) e).trans e.symm) (R.ok a m h)
  refine ⟨⟨fun a o h => ⟨e1 a o (fun z => by rw [z, f0] at h; cases h) (R.sub a o h).1, (R.sub a o h).2⟩, ok, fun p hp => ?_⟩,
    fun _ _ h => h, fun a o h nt n => ⟨e1 a o (fun z => by rw [z, hP] at h; cases h; exact nt _ rfl) h, n⟩, fun a o h => .inl (by rw [h]; exact fun z => (nomatch z))⟩
  by_cases hz : p.1 = P
  · rw [hu p hp hz, hz]
    obtain ⟨qs, h1, h2, h3⟩ := T1
    refine ⟨f0, s0, qs, h1, h2, fun pos cv hc => ?_⟩
    obtain ⟨c, z1, z2⟩ := h3 pos cv hc
    refine ⟨c, z1, z2, ?_⟩
    cases e : st c with
    | none => rfl
    | some m => exact (mok_code (ok c m e) z2).elim
  · obtain ⟨g0, g1, qs, h1, h2, h3⟩ := R.tb p hp
    refine ⟨g0, g1, qs, e1 _ _ hz h1, h2, fun pos cv hc => ?_⟩
    obtain ⟨c, z1, z2, z3⟩ := h3 pos cv hc
    exact ⟨c, z1, e1 _ _ (fun z => by rw [z, hP] at z2; exact LamX.codeO_ne _ (Option.some.inj z2).symm) z2, z3⟩
end DL
end
section
set_option Elab.async false
set_option linter.all false
set_option maxRecDepth 100000
set_option maxHeartbeats 4000000
namespace DL
open PySem PySem.Spec L2 PyProof.Rows EX
variable [tB : Tb]
section
variable {P : Program} {w : World} {K : PySem.W.Frag} {mg : Str → Option Value} {base : Heap}
/-- as Fun, with the code object -/
structure FunM (K : PySem.W.Frag) (x qual : Str) (st : Stmt) (f cc : Addr) (fd : FuncData) : Prop where
  ex : ∃ (oc : Value) (od : Option Addr) (kV doc pm : Value) (an : Option Addr) (ct : Value) (osl : Array (Option Value)),
    fd = PySem.W.fnOf x qual (defArgs st) (defBody st) (defScope st) .none kV doc pm an (.ref cc) ct ∧ K.lookup f = some ⟨oc, od, .func fd, osl⟩ ∧ PySem.W.codeIn K (.ref cc) qual = true
theorem FunM.fn {x qual : Str} {st : Stmt} {f cc : Addr} {fd : FuncData} (F : FunM K x qual st f cc fd) (kp : PySem.W.keepIn K (.ref f) = true) : Fun K x qual st f fd := by
  obtain ⟨oc, od, kV, doc, pm, an, ct, osl, h1, h2, h3⟩ := F.ex
  exact ⟨⟨oc, od, kV, doc, pm, an, .ref cc, ct, osl, h1, h2, h3⟩, kp⟩
end
end DL
end
section
set_option Elab.async false
set_option linter.all false
set_option maxRecDepth 100000
namespace RD
open PySem L2 DL
end RD
end
section
set_option Elab.async false
set_option linter.all false
set_option maxRecDepth 100000
set_option maxHeartbeats 4000000
namespace DL
open PySem PySem.Spec L2 PyProof.Rows
end DL
end
section
set_option Elab.async false
set_option linter.all false
set_option maxRecDepth 100000
set_option maxHeartbeats 4000000
namespace DL
open PySem PySem.Spec L2 PyProof.Rows
end DL
namespace DL
open PySem PySem.Spec L2 PyProof.Rows
end DL
end
section
set_option Elab.async false
set_option linter.all false
set_option maxRecDepth 100000
set_option maxHeartbeats 4000000
namespace SKy
open PySem PyProof.Rows
theorem uniq {α : Type} : ∀ {ps qs : List (Int × α)}, ps.Pairwise (fun p q => p.1 ≤ q.1) → qs.Pairwise (fun p q => p.1 ≤ q.1) → (∀ c, ps.filter (fun p => p.1 == c) = qs.filter (fun p => p.1 == c)) → ps = qs
  | [], [], _, _, _ => rfl
  | [], q :: qs, _, _, h => by have := h q.1; simp at this
  | p :: ps, [], _, _, h => by have := h p.1; simp at this
  | p :: ps, q :: qs, hp, hq, h => by
    have mq : p ∈ (q :: qs).filter (fun z => z.1 == p.1) := by rw [← h p.1]; simp
    have mp : q ∈ (p :: ps).filter (fun z => z.1 == q.1) := by rw [h q.1]; simp
    have l1 : q.1 ≤ p.1 := by
      rcases List.mem_cons.mp (List.mem_filter.mp mq).1 with z | z
      · rw [z]; exact Int.le_refl _
      · exact (List.pairwise_cons.mp hq).1 _ z
    have l2 : p.1 ≤ q.1 := by
      rcases List.mem_cons.mp (List.mem_filter.mp mp).1 with z | z
      · rw [z]; exact Int.le_refl _
      · exact (List.pairwise_cons.mp hp).1 _ z
    have e1 : p.1 = q.1 := by omega
    have e := h p.1
    rw [List.filter_cons, List.filter_cons, if_pos (by simp), if_pos (by simp [e1])] at e
    have epq : p = q := (List.cons.inj e).1
    subst epq
    rw [uniq (List.pairwise_cons.mp hp).2 (List.pairwise_cons.mp hq).2 fun c => by
      have z := h c
      rw [List.filter_cons, List.filter_cons] at z
      split at z
      · exact (List.cons.inj z).2
      · exact z]
end SKy
end
section
set_option Elab.async false
set_option linter.all false
set_option maxRecDepth 100000
set_option maxHeartbeats 4000000
namespace DL
open PySem PySem.Spec L2 PyProof.Rows
end DL
end
section
set_option Elab.async false
set_option linter.all false
set_option maxRecDepth 100000
set_option maxHeartbeats 4000000
namespace DL
open PySem PySem.Spec L2 PyProof.Rows
end DL
end
section
set_option Elab.async false
set_option linter.all false
set_option maxRecDepth 100000
set_option maxHeartbeats 4000000
namespace DL
open PySem PySem.Spec L2 PyProof.Rows
end DL
namespace DL
open PySem PySem.Spec L2 PyProof.Rows
end DL
end
section
set_option Elab.async false
set_option linter.all false
set_option maxRecDepth 100000
set_option maxHeartbeats 4000000
namespace DL
open PySem PySem.W PySem.Calls PySem.Spec L2 PyProof.Rows PyProof.V
end DL
end
section
set_option Elab.async false
set_option linter.all false
set_option maxRecDepth 100000
set_option maxHeartbeats 2000000
namespace L2
open PySem PySem.Spec PyProof.Rows
section
variable {X : Cx}
/-- the int at an index of a list -/
def rGetI : V → V → Hp → VK → Prop := fun o i H Q => ∃ (p : Addr) (xs : List V) (k : Int) (v : V), o = .ref p ∧ i = .int k ∧ H p = some (.lst xs) ∧ 0 ≤ k ∧ xs[k.toNat]? = some v ∧ Q v H
theorem get_listI : PGet X rGetI := by
  intro pins s σ H o i ov iv Q I ro ri h
  obtain ⟨p, xs, k, v, rfl, rfl, hp, h0, hx, q⟩ := h
  cases ro
  obtain ⟨t, rfl⟩ := ri
  obtain ⟨its, n, r, ho, hz⟩ := I.lst hp
  obtain ⟨w, ew, rw'⟩ := r.get hx
  have hlt := (List.getElem?_eq_some_iff.mp hx).1
  have hl := r.length
  have hn := line63
  have il : s.heap.IsList p its.toArray := ⟨_, ho, rfl, n, rfl⟩
  exact PySem.wpAny_getItem_list il h0 (by omega) (by simpa using ew) ⟨v, H, I, rw', q⟩
end
end L2
namespace DL
open PySem PySem.Spec L2 PyProof.Rows
variable [tB : Tb] [gR : Gr]
section
variable {P : Program} {w : World} {K : PySem.W.Frag} {mg : Str → Option Value} {base : Heap} {X : Cx} {N : List Str} {sc fs : Scope} {k : Nat}
theorem rvs_get {F : Hp} : ∀ {vs : List V} {xs : List DV} {j : Nat} {x : DV}, RVs K F vs xs → xs[j]? = some x → ∃ v, vs[j]? = some v ∧ RV K F v x
  | _, _, _, _, .nil, h => by cases h
  | _ :: _, _ :: _, 0, _, .cons r _, h => by cases h; exact ⟨_, rfl, r⟩
  | _ :: _, _ :: _, j + 1, _, .cons _ s, h => rvs_get (j := j) s h
/-- xs[i] op= e -/
def qLAug (to ti te : TD) (g : Int → Int → Int) : TDs := fun D ε st => to ε st fun x s1 => ti ε s1 fun y s2 => match x, y with
  | .r a, .d (.int i) => ∃ xs u, s2 a = some (.lst xs) ∧ 0 ≤ i ∧ xs[i.toNat]? = some (.d (.int u)) ∧ te ε s2 fun z s3 => (match z with
    | .d (.int v) => ∃ ys, s3 a = some (.lst ys) ∧ i.toNat < ys.length ∧ D.nx ε (up s3 a (.lst (ys.set i.toNat (.d (.int (g u v))))))
    | _ => False)
  | _, _ => False
theorem ds_laug {o i e : Expr} {op : Operator} {tpos pos : Pos} {to ti te : TD} {g : Int → Int → Int} (ho : DE X o to) (hi : DE X i ti) (he : DE X e te) (hp : PIp X op (ipI g))
    (ha : ∀ ov iv new, augStore i ov iv new = (do holding [new, ov, iv] (setItem ov iv new); release [new, ov, iv] []; pure .next) := by intros; rfl) : DS X (.AugAssign (.Subscript o i tpos) op e pos) (qLAug to ti te g) := by
  obtain ⟨t1, p1, a1⟩ := ho
  obtain ⟨t2, p2, a2⟩ := hi
  obtain ⟨t3, p3, a3⟩ := he
  refine ⟨⟨_, ps_augS p1 p2 get_listI p3 hp set_list ha, fun F σ H ε st Dd D R E h kk => ?_⟩⟩
  refine a1 F σ H ε st _ _ R E h fun F1 v H1 x s1 st1 R1 r1 q => ?_
  refine a2 F1 σ H1 ε s1 _ _ R1 (E.mono st1.ex) q fun F2 u H2 y s2 st2 R2 r2 q => ?_
  split at q
  rotate_left
  · exact q.elim
  rename_i aa ii qq
  obtain ⟨xs, u0, ex, h0, hx, q⟩ := q
  cases r1
  cases rv_int r2
  obtain ⟨vs, hv, s⟩ := R2.ok _ _ ex
  obtain ⟨w0, hw, rw0⟩ := rvs_get s hx
  cases rv_int rw0
  refine ⟨_, vs, _, _, rfl, rfl, hv, h0, hw, ?_⟩
  refine a3 F2 σ H2 ε s2 _ _ R2 (E.mono (st1.trans st2).ex) q fun F3 z H3 z' s3 st3 R3 r3 q => ?_
  split at q
  rotate_left
  · exact q.elim
  rename_i v
  obtain ⟨ys, ey, hj, q⟩ := q
  cases rv_int r3
  obtain ⟨vs3, hv3, s3'⟩ := R3.ok _ _ ey
  refine ⟨u0, v, rfl, rfl, ?_⟩
  obtain ⟨R4, t4⟩ := R3.put (o := .lst (vs3.set ii.toNat (V.int (g u0 v)))) (m := .lst (ys.set ii.toNat (.d (.int (g u0 v))))) ey ⟨_, upd_same, rvs_set (.d (.int _)) _ s3'⟩
  have hix : ixN vs3.length ii = some ii.toNat := by
    unfold ixN
    rw [if_pos h0, if_pos (by rw [s3'.length]; omega)]
  exact ⟨_, vs3, ii, ii.toNat, rfl, rfl, hv3, hix, kk.nx F3 σ _ ε _ (((st1.trans st2).trans st3).trans t4) R4 (E.mono ((st1.trans st2).trans st3).ex) q⟩
end
end DL
end
section
set_option Elab.async false
set_option linter.all false
set_option maxRecDepth 100000
set_option maxHeartbeats 4000000
namespace L2
open PySem PySem.Spec PyProof.Rows
section
variable {X : Cx} {pins : List (Addr × Obj)} {σ : St} {H : Hp} {s : Shared} {E : Value → Shared → Prop}
/-- a pair goes into the dict of a comprehension -/
theorem d_compSet {D : Addr} {y v : V} {u r : Value} {H' : Hp} {Q : Unit → Shared → Prop} (hu : X.A.units + 1 < cLine) (I : Inv X pins σ H s) (g : DPut H D y v H') (ry : RelV y u) (rv : RelV v r) (h : ∀ s', Inv X pins σ H' s' → Q () s') :
    wpAny (model X.prog X.w) X.A (dictSet D u r) Q E s := by
  rcases g with ⟨kvs, k, e, ey, l, eH⟩ | ⟨kvs, k, b, e, ey, eb, l, eH⟩
  · subst ey eH
    exact d_dictSet I e l ry rv h
  · subst ey eH
    cases (show u = Value.ref b from ry)
    obtain ⟨z, hd, xs, rel, dd⟩ := dt_of I.hok e
    have hz : xs.length ≤ sizeLine := by rw [← Paired.length rel]; exact z
    have hl : (putK kvs k v).length ≤ sizeLine := by have := length_putK kvs k v; omega
    refine wpAny_dictSet_heap (hsz := hz) (show X.A.units < cLine from Nat.lt_of_succ_lt hu) (key_of I.hok eb) dd fun h' dd' hs => h _ ?_
    obtain ⟨q, es, ep, hq, h2, h3, h4, _, h5⟩ := dd'
    refine d_write I (by rw [e]; exact True.intro) hs ⟨q, hq⟩ ⟨hl, hd, _, (rel.put k eb rv).keeps fun c ys ec => ?_, q, es, ep, hq, h2, h3, h4, h5⟩
    rw [upd_ne (ne_of ec e (fun z => nomatch z))]
    exact ec
/-- a new empty dict -/
def Emp (o : HO) : Prop := o = .dK [] ∨ o = .dT []
theorem Emp.ok {o : HO} (h : Emp o) {P : Program} {w : World} {H : Hp} (hp : Heap) (hb : sysModules < hp.objs.size) : ObjOk P w H (hp.push { cls := .type "dict", data := .dict #[] }) hp.objs.size o := by
  rcases h with rfl | rfl
  · exact dk_empty hp hb
  · exact dt_empty hp hb
def tDcG (o0 : HO) (wi : TI) (g : TG) (tt : TT) (tk tv : TE) (vs : List Nat) : TE := fun σ H Q => wi σ H fun J H1 => ∀ D, H1 D = none → ∃ W : Nat → Nat → Hp → Prop, (∃ m, W 0 m (upd H1 D o0)) ∧ ∀ i m H, W i m H →
  (J.stop i H ∧ Q (.ref D) H) ∨ (J.go i H ∧ ∃ Nx : Hp → Prop, (∀ H', Nx H' → ∃ m', m' < m ∧ W (i + 1) m' H') ∧ ∀ x H', J.yld i H x H' → g x (wipe σ vs) H' fun σ2 H2 => wipe σ2 vs = wipe σ vs ∧ tt σ2 H2 fun b H3 =>
    if b = true then tk σ2 H3 fun y H4 => tv σ2 H4 fun z H5 => ∃ H6, DPut H5 D y z H6 ∧ Nx H6 else Nx H3)
/-- the block's loop and what follows it -/
theorem dcG_core {kx vx tg iter : Expr} {ifs : List Expr} {scope : Scope} {own : List (Str × Nat)} {pos pos' : Pos} {o0 : HO} {wi : TI} {g : TG} {tt : TT} {tk tv : TE} {Q : VK} {use : Option (Value → Sem Unit)} {Qf : Value → Shared → Prop} (h0 : Emp o0) (hu : X.A.units + 1 < cLine) (hc : X.calm = true) (hN : X.N.Nodup) (I : Inv X pins σ H s) (hi : PI X tg iter wi) (ok : BlkOk X.N X.env.scope scope own)
    (hg : ∀ (s : Shared) (H : Hp) (C : Addr) (cl : List (Str × Addr)) (fp : List Addr), PG (X.blk s H scope (compEnvC scope cl C X.env) fp) tg g) (ht : ∀ (s : Shared) (H : Hp) (C : Addr) (cl : List (Str × Addr)) (fp : List Addr), PTs (X.blk s H scope (compEnvC scope cl C X.env) fp) ifs tt)
    (hk : ∀ (s : Shared) (H : Hp) (C : Addr) (cl : List (Str × Addr)) (fp : List Addr), PE (X.blk s H scope (compEnvC scope cl C X.env) fp) kx tk)
    (he : ∀ (s : Shared) (H : Hp) (C : Addr) (cl : List (Str × Addr)) (fp : List Addr), PE (X.blk s H scope (compEnvC scope cl C X.env) fp) vx tv) (hs : ∀ x, foldedSetIterable iter X.env x = pure x)
    (h : tDcG o0 wi g tt tk tv (own.map (·.2)) σ H Q)
    (hend : ∀ D C s' m H', Inv X pins σ H' s' → Q (.ref D) H' → s'.heap.Ns C m → FpOk X pins H' C → compPost (model X.prog X.w) X.A X.xe use Qf (.ref D) C (.ok .next) s') :
    wpAny (model X.prog X.w) X.A (comprehension (.DictComp kx vx [⟨tg, iter, ifs, 0⟩] scope pos) scope X.env pos' newDict false (eval iter X.env) use) Qf X.xe s := by
  have cells : ∀ y ∈ scope.names, y.2 = .free → ∃ c, X.env.cells.lookup y.1 = some c := fun y hy e => (ok.free y hy e).elim (fun k => I.ok.has _ (.inl k)) fun k => I.ok.has _ (.inr k)
  refine wpAny_comprehension_free rfl hs (closure_ok cells) ok.kind (fun y hy e => by rw [ok.uniq y hy, e]) (thn (hi.run pins s σ H _ I h) fun xv s1 hx => thn hx fun itv s2 h2 => ?_)
  obtain ⟨it, fp, tn, J, H2, rfl, I2, T, st2, f2, q⟩ := h2
  refine wpAny_newObj_type (newEnv_comp ?_)
  obtain ⟨D, hD⟩ : ∃ D, s2.heap.objs.size = D := ⟨_, rfl⟩
  rw [hD]
  obtain ⟨W, ⟨m0, w0⟩, turn⟩ := q D (I2.hok.fresh (Nat.le_of_eq hD))
  -- the state with the new dict
  obtain ⟨s3, hs3⟩ : ∃ s3 : Shared, ({ s2 with heap := s2.heap.push { cls := .type "dict", data := .dict #[] } } : Shared) = s3 := ⟨_, rfl⟩
  have h3 : s3.heap = s2.heap.push { cls := .type "dict", data := .dict #[] } := by rw [← hs3]
  obtain ⟨H3, hH3⟩ : ∃ H3, upd H2 D o0 = H3 := ⟨_, rfl⟩
  have I3 : Inv X pins σ H3 s3 := by
    rw [← hs3, ← hH3]
    refine I2.laid (t' := s2.toks) (fun b o e => Heap.get?_push_of_some _ e) (Nat.le_of_eq hD) ?_
    rw [← hD]
    exact h0.ok s2.heap I2.big
  have f3 : ∀ b ∈ fp, FpOk X pins H3 b ∧ b < s3.heap.objs.size := fun b hb => by
    obtain ⟨o, e, _⟩ := T.obj _ _ st2 b hb
    have hlt := Heap.lt_size e
    refine ⟨⟨?_, (f2 b hb).2⟩, by rw [h3, Heap.size_push]; exact Nat.lt_succ_of_lt hlt⟩
    rw [← hH3, upd_ne (by rw [← hD]; exact Nat.ne_of_lt hlt)]
    exact (f2 b hb).1
  have st3 : tn 0 s3.heap := T.keep _ _ _ st2 fun b _ o e => by rw [h3]; exact Heap.get?_push_of_some _ e
  obtain ⟨C, hC⟩ : ∃ C, s3.heap.objs.size = C := ⟨_, rfl⟩
  obtain ⟨ce, hce⟩ : ∃ ce, compEnvC scope (cellsFrom (s3.heap.objs.size + 1) scope.names (cloFrom X.env.cells scope.names [])) s3.heap.objs.size X.env = ce := ⟨_, rfl⟩
  obtain ⟨s4, hs4⟩ : ∃ s4 : Shared, ({ s3 with heap := pushCells (s3.heap.push { cls := .type "dict", data := .dict #[] }) scope.names } : Shared) = s4 := ⟨_, rfl⟩
  have I4 := block_start I3 ok hN f3
  have pg := hg s3 H3 s3.heap.objs.size (cellsFrom (s3.heap.objs.size + 1) scope.names (cloFrom X.env.cells scope.names [])) fp
  have pt := ht s3 H3 s3.heap.objs.size (cellsFrom (s3.heap.objs.size + 1) scope.names (cloFrom X.env.cells scope.names [])) fp
  have pk := hk s3 H3 s3.heap.objs.size (cellsFrom (s3.heap.objs.size + 1) scope.names (cloFrom X.env.cells scope.names [])) fp
  have pv := he s3 H3 s3.heap.objs.size (cellsFrom (s3.heap.objs.size + 1) scope.names (cloFrom X.env.cells scope.names [])) fp
  have cL : ce.locals = C := by rw [← hce, ← hC]; rfl
  have st4 : tn 0 s4.heap := T.keep _ _ _ st3 fun b _ o e => by rw [← hs4]; exact pushCells_keeps _ _ _ _ (Heap.get?_push_of_some _ e)
  rw [hce] at pg pt pk pv
  rw [hce, hs4] at I4
  have fpk : ∀ {σ' : St} {H' : Hp} {s' : Shared}, Inv (X.blk s3 H3 scope ce fp) [] σ' H' s' → (∀ b ∈ fp, H' b = none) → ∀ b ∈ fp, FpOk (X.blk s3 H3 scope ce fp) [] H' b := fun I' hn b hb =>
    ⟨hn b hb, (I'.ok.exf b hb).1, I'.ok.exfs b hb, .inl hb, fun x c e => (I'.ok.exf b hb).2 x c e, fun p hp => absurd (show p ∈ ([] : List (Addr × Obj)) ++ [] from hp) (by simp)⟩
  suffices loop : codeAny (model X.prog X.w) X.A (.compLoop (.DictComp kx vx [⟨tg, iter, ifs, 0⟩] scope pos) 0 (.ref it) (.ref D) ce) (compPost (model X.prog X.w) X.A X.xe use Qf (.ref D) C) s4 by
    have fin := codeAny_compStart_dict loop (T.self X.A 0 _ _ _ st4 loop)
    subst hce hs4 hC hs3
    exact fin
  rw [hH3] at w0
  refine compLoop_anyD (fun n s' => ∃ i H', Inv (X.blk s3 H3 scope ce fp) [] (wipe σ (own.map (·.2))) H' s' ∧ tn i s'.heap ∧ (∀ b ∈ fp, H' b = none) ∧ W i n H') ?_ m0 ⟨0, H3, I4, st4, fun b hb => (f3 b hb).1.1, w0⟩
  rintro n s5 ⟨i, H5, I5, st5, n5, w5⟩
  rcases turn i n H5 w5 with ⟨stop, qq⟩ | ⟨go, Nx, hNx, step⟩
  · -- the iterator is at its end
    refine thnF (T.done (X.blk s3 H3 scope ce fp) rfl rfl rfl hc i [] s5 _ H5 (fun _ _ => False) I5 (fpk I5 n5) st5 stop) fun r s6 ⟨hr, I6⟩ => ?_
    subst hr
    have I7 : Inv X pins σ H5 s6 := I3.call' (ch := fp) I6.os I6.base I6.hok I6.bare fun b hb => ⟨(f3 b hb).1.2.2.2.1, (f3 b hb).1.2.1, (f3 b hb).1.2.2.2.2.1, (f3 b hb).1.2.2.2.2.2⟩
    have nC : H5 C = none := by
      have z : H5 ce.locals = none := I6.free
      rw [cL] at z
      exact z
    obtain ⟨m, hn, _⟩ := I6.loc
    have hn : s6.heap.Ns ce.locals m := hn
    rw [cL] at hn
    exact hend D C s6 m H5 I7 qq hn (I3.fpOk (Nat.le_of_eq hC) nC)
  · -- one item
    refine thnF (T.item (X.blk s3 H3 scope ce fp) rfl rfl rfl hc i [] s5 _ H5 (fun _ _ => False) I5 (fpk I5 n5) st5 go) fun r s6 ⟨u, hr, h6⟩ => ?_
    subst hr
    refine thnF h6 fun _ s7 ⟨x, H7, I7, r7, y7, st7, n7⟩ => ?_
    have I7' := I7.pinned (fpk I7 n7) (T.obj _ _ st7)
    refine thnF (pg.run _ s7 _ H7 x u _ I7' r7 (step x H7 y7)) fun _ s8 ⟨σ8, H8, I8, hw8, q8⟩ => ?_
    refine thnF (pt.run _ s8 σ8 H8 _ I8 q8) fun b s9 ⟨H9, I9, q9⟩ => ?_
    have back : ∀ {s' : Shared} {H' : Hp}, Inv (X.blk s3 H3 scope ce fp) ([] ++ pinsAt fp s7.heap) σ8 H' s' → Nx H' → ∃ m, m < n ∧ ∃ i H', Inv (X.blk s3 H3 scope ce fp) [] (wipe σ (own.map (·.2))) H' s' ∧ tn i s'.heap ∧ (∀ b ∈ fp, H' b = none) ∧ W i m H' := fun {s' H'} I' nx => by
      obtain ⟨m', hm, w'⟩ := hNx H' nx
      have held : ∀ b ∈ fp, ∀ o, s7.heap.get? b = some o → s'.heap.get? b = some o ∧ H' b = none := fun b hb o e => by
        have z := I'.pin (b, o) (List.mem_append_right _ (List.mem_append_right _ (mem_pinsAt hb e)))
        exact ⟨z.1, z.2.1⟩
      have hl : (wipe σ (own.map (·.2))).length = σ8.length := by rw [← hw8, wipe_length]
      refine ⟨m', hm, i + 1, H', (I'.unpinned (pins := [])).weak hl (fun j v e => ?_), T.keep _ _ _ st7 fun b hb o e => (held b hb o e).1, fun b hb => ?_, w'⟩
      · rw [← hw8] at e
        exact (wipe_some e).1
      · obtain ⟨o, e, _⟩ := T.obj _ _ st7 b hb
        exact (held b hb o e).2
    cases b with
    | false =>
      simp only [Bool.false_eq_true, if_false] at q9 ⊢
      exact back I9 q9
    | true =>
      simp only [if_true] at q9 ⊢
      refine thnF (pk.run _ s9 σ8 H9 _ I9 q9) fun z s10 ⟨yk, H10, I10, r10, q10⟩ => ?_
      refine thnF (pv.run _ s10 σ8 H10 _ I10 q10) fun z2 s11 ⟨yv, H11, I11, r11, H12, dp, nx⟩ => ?_
      exact d_compSet (X := X.blk s3 H3 scope ce fp) hu I11 dp r10 r11 fun s12 I12 => back I12 nx
/-- name = {..} on one line -/
theorem ps_setDcG {i : Nat} {y : Str} {py : Pos} {kx vx tg iter : Expr} {ifs : List Expr} {scope : Scope} {own : List (Str × Nat)} {pos spos : Pos} {o0 : HO} {wi : TI} {g : TG} {tt : TT} {tk tv : TE} (h0 : Emp o0) (hu : X.A.units + 1 < cLine) (hc : X.calm = true) (hN : X.N.Nodup) (hy : X.N[i]? = some y) (hyl : X.env.scope.names.lookup y = some .local)
    (hsw : swapsWith (.DictComp kx vx [⟨tg, iter, ifs, 0⟩] scope pos) (some (.Name y py)) spos.line X.env = pure true) (hi : PI X tg iter wi) (ok : BlkOk X.N X.env.scope scope own)
    (hg : ∀ (s : Shared) (H : Hp) (C : Addr) (cl : List (Str × Addr)) (fp : List Addr), PG (X.blk s H scope (compEnvC scope cl C X.env) fp) tg g) (ht : ∀ (s : Shared) (H : Hp) (C : Addr) (cl : List (Str × Addr)) (fp : List Addr), PTs (X.blk s H scope (compEnvC scope cl C X.env) fp) ifs tt)
    (hk : ∀ (s : Shared) (H : Hp) (C : Addr) (cl : List (Str × Addr)) (fp : List Addr), PE (X.blk s H scope (compEnvC scope cl C X.env) fp) kx tk)
    (he : ∀ (s : Shared) (H : Hp) (C : Addr) (cl : List (Str × Addr)) (fp : List Addr), PE (X.blk s H scope (compEnvC scope cl C X.env) fp) vx tv) (hs : ∀ x, foldedSetIterable iter X.env x = pure x := by intro _; rfl) :
    PS X (.Assign [.Name y py] (.DictComp kx vx [⟨tg, iter, ifs, 0⟩] scope pos) spos) (tAsg (tDcG o0 wi g tt tk tv (own.map (·.2))) (gName i)) := by
  refine ⟨fun pins s σ H D I h => ?_⟩
  rw [exec_Assign_Name_used _ _ _ _ hsw]
  refine wpAny_bind (wpAny_standAt (wpAny_bind ?_))
  show wpAny _ X.A (do let _ ← comprehension (.DictComp kx vx [⟨tg, iter, ifs, 0⟩] scope pos) scope X.env (firstIterPos [⟨tg, iter, ifs, 0⟩] pos) newDict false (eval iter X.env) (some (assign (.Name y py) X.env))) _ _ s
  have h : tDcG o0 wi g tt tk tv (own.map (·.2)) σ H (fun x H1 => gName i x σ H1 D.nx) := h
  refine wpAny_bind (thn (dcG_core (Qf := fun _ s' => SP X pins D .next s') h0 hu hc hN I hi ok hg ht hk he hs h fun L C s' m H' I' q hn f => ?_) fun _ s' hq => wpAny_pure (wpAny_pure hq))
  show wpAny _ _ (assign (.Name y py) X.env (.ref L)) _ _ _
  refine wpAny_assign_Name (store_ok2 (v := V.ref L) I' hN hy (.inl hyl) rfl (fun s2 I2 ⟨a, sb, ha⟩ => ?_) (.inr hyl))
  obtain ⟨f0, f1, f2, f3, f4, f5⟩ := f
  have haC : C ≠ a := by
    rcases ha with z | z
    · rw [z]; exact f1
    · exact fun e => f4 y a z e.symm
  exact ⟨m, hn.sameBut sb haC, fun h3 sb3 => ⟨_, H', I2.turned (t' := s2.toks) (fun b o hb e => (sb3.2 b hb).trans e) f0 f1 f3 f4 f5, q⟩⟩
end
end L2
namespace DL
open PySem PySem.Spec L2 PyProof.Rows
variable [tB : Tb] [gR : Gr]
section
variable {P : Program} {w : World} {K : PySem.W.Frag} {mg : Str → Option Value} {base : Heap} {X : Cx} {N : List Str} {sc fs : Scope} {k : Nat}
/-- the turns of a dict comprehension, p the new dict -/
def qCompD (p : Addr) (inv : Sto → Prop) (g : TDg) (tt : TDt) (tk tv : TD) (ε : Env) (Kc : Sto → Prop) : List DV → Sto → Prop
  | [], st => inv st ∧ Kc st
  | x :: r, st => inv st ∧ g x ε st fun ε1 s1 => tt ε1 s1 fun b s2 => if b = true then tk ε1 s2 fun y s3 => tv ε1 s3 fun z s4 => (match dput (s4 p) y z with
      | some m => qCompD p inv g tt tk tv ε Kc r (up s4 p m)
      | none => False) else qCompD p inv g tt tk tv ε Kc r s2
theorem qCompD_inv {p : Addr} {inv : Sto → Prop} {g : TDg} {tt : TDt} {tk tv : TD} {ε : Env} {Kc : Sto → Prop} {l : List DV} {st : Sto} (h : qCompD p inv g tt tk tv ε Kc l st) : inv st := by
  cases l with
  | nil => exact h.1
  | cons x r => exact h.1
def qDc (T : Bool) (ti : TDi) (g : TDg) (tt : TDt) (tk tv : TD) (vs : List Nat) : TD := fun ε st Q => ti ε st fun items inv s1 => ∀ p, s1 p = none → qCompD p inv g tt tk tv (wipeD ε vs) (fun s2 => Q (.r p) s2) items (up s1 p (if T then .dT [] else .dK []))
theorem dcomp_sim {wi : TI} {g : TG} {tt : TT} {tk tv : TE} {ti : TDi} {gd : TDg} {ttd : TDt} {tkd tvd : TD} {T : Bool} {vs ws : List Nat} (hv : ∀ i ∈ ws, i ∈ vs)
    (a0 : ∀ F σ H ε st Qd R', Rs K F H st → RE K F σ ε → ti ε st Qd → (∀ F' J H' items inv st', Step F H st F' H' st' → Rs K F' H' st' → Src K F' J items inv → Qd items inv st' → R' J H') → wi σ H R')
    (a1 : ∀ F σ H ε st v x Qd Q, Rs K F H st → RE K F σ ε → RV K F v x → gd x ε st Qd → (∀ F' σ' H' ε' st', Step F H st F' H' st' → Rs K F' H' st' → RE K F' σ' ε' → (∀ vs : List Nat, (∀ i ∈ ws, i ∈ vs) → wipe σ' vs = wipe σ vs) → Qd ε' st' → Q σ' H') → g v σ H Q)
    (a2 : Sg relT K tt ttd) (a3 : Sg (RV K) K tk tkd) (a4 : Sg (RV K) K tv tvd) : Sg (RV K) K (tDcG (if T then .dT [] else .dK []) wi g tt tk tv vs) (qDc T ti gd ttd tkd tvd vs) := by
  intro F σ H ε st Qd Q R E h kk
  refine a0 F σ H ε st _ _ R E h fun F1 J H1 items inv st1 s1 R1 src q => ?_
  intro D hD
  obtain ⟨f0, d0⟩ := R1.free hD
  have q := q D d0
  obtain ⟨R1', s1'⟩ : Rs K F1 (upd H1 D (if T then .dT [] else .dK [])) (up st1 D (if T then .dT [] else .dK [])) ∧ Step F1 H1 st1 F1 (upd H1 D (if T then .dT [] else .dK [])) (up st1 D (if T then .dT [] else .dK [])) := by
    cases T with
    | true => exact R1.new (o := .dT []) (m := .dT []) hD ⟨[], upd_same, .nil⟩
    | false => exact R1.new (o := .dK []) (m := .dK []) hD ⟨[], upd_same, .nil⟩
  refine ⟨fun i mm H' => i ≤ items.length ∧ mm = items.length - i ∧ ∃ F' st', Step F1 H1 st1 F' H' st' ∧ Rs K F' H' st' ∧ qCompD D inv gd ttd tkd tvd (wipeD ε vs) (fun s2 => Qd (.r D) s2) (items.drop i) st',
    ⟨items.length, Nat.zero_le _, by omega, F1, _, s1', R1', by rw [List.drop_zero]; exact q⟩, ?_⟩
  rintro i mm H2 ⟨hi, rfl, F2, st2, s2, R2, q2⟩
  have iv := qCompD_inv q2
  obtain ⟨src1, src2⟩ := src F2 H2 st2 s2.ex R2 iv
  by_cases hlt : i < items.length
  · have ed : items.drop i = items[i] :: items.drop (i + 1) := List.drop_eq_getElem_cons hlt
    rw [ed] at q2
    obtain ⟨go, yl⟩ := src1 i items[i] (List.getElem?_eq_getElem hlt)
    refine .inr ⟨go, fun H' => ∃ F' st', Step F1 H1 st1 F' H' st' ∧ Rs K F' H' st' ∧ qCompD D inv gd ttd tkd tvd (wipeD ε vs) (fun s2 => Qd (.r D) s2) (items.drop (i + 1)) st',
      fun H' q' => ⟨items.length - (i + 1), by omega, hlt, rfl, q'⟩, fun v H3 y => ?_⟩
    obtain ⟨F3, s3, R3, r3⟩ := yl v H3 y
    have E3 : RE K F3 (wipe σ vs) (wipeD ε vs) := (E.mono (s1.trans (s2.trans s3)).ex).wipe vs
    refine a1 F3 _ H3 _ st2 v items[i] _ _ R3 E3 r3 q2.2 fun F4 σ4 H4 ε4 st4 s4 R4 E4 w4 q4 => ?_
    refine ⟨(w4 vs hv).trans (comp_sim.wipe_idem σ vs), ?_⟩
    refine a2 F4 σ4 H4 ε4 st4 _ _ R4 E4 q4 fun F5 b H5 b' st5 s5 R5 rb q5 => ?_
    cases rb
    have s25 := s2.trans (s3.trans (s4.trans s5))
    cases b with
    | true =>
      refine a3 F5 σ4 H5 ε4 st5 _ _ R5 (E4.mono s5.ex) q5 fun F6 y H6 y' st6 s6 R6 ry q6 => ?_
      refine a4 F6 σ4 H6 ε4 st6 _ _ R6 (E4.mono (s5.trans s6).ex) q6 fun F7 z H7 z' st7 s7 R7 rz q7 => ?_
      split at q7
      rotate_left
      · exact q7.elim
      rename_i m em
      obtain ⟨H8, dp, s8, R8⟩ := dput_at R7 (ry.mono s7.ex) rz em
      exact ⟨H8, dp, F7, _, ((s25.trans s6).trans s7).trans s8, R8, q7⟩
    | false => exact ⟨F5, st5, s25, R5, q5⟩
  · have e : i = items.length := by omega
    subst e
    rw [List.drop_length] at q2
    exact .inl ⟨src2, kk F2 (.ref D) H2 (.r D) st2 (s1.trans s2) R2 (.r D) q2.2⟩
theorem emp_T (T : Bool) : Emp (if T then .dT [] else .dK []) := by
  cases T with
  | true => exact .inr rfl
  | false => exact .inl rfl
theorem ds_setDc {kx vx tg iter : Expr} {ifs : List Expr} {scope : Scope} {i : Nat} {y : Str} {py pos spos : Pos} {ti : TDi} {g : TDg} {tt : TDt} {tk tv : TD} {ws : List Nat} (T : Bool) (own : List (Str × Nat)) (c : Cok P w K mg base X N sc fs k) (hy : setLcB N sc i y = true)
    (hsw : swapsWith (.DictComp kx vx [⟨tg, iter, ifs, 0⟩] scope pos) (some (.Name y py)) spos.line (envS sc) = pure true) (hb : blkC N sc scope own = true) (hw : ∀ i ∈ ws, i ∈ own.map (·.2)) (hi : DI X tg iter ti)
    (hg : ∀ X', Cok P w K mg base X' N (relS scope sc) scope k → DG X' tg ws g) (ht : ∀ X', Cok P w K mg base X' N (relS scope sc) scope k → DTs X' ifs tt) (hk : ∀ X', Cok P w K mg base X' N (relS scope sc) scope k → DE X' kx tk) (he : ∀ X', Cok P w K mg base X' N (relS scope sc) scope k → DE X' vx tv)
    (hs : ∀ x, foldedSetIterable iter X.env x = pure x := by intro _; rfl) : DS X (.Assign [.Name y py] (.DictComp kx vx [⟨tg, iter, ifs, 0⟩] scope pos) spos) (qAsg (qDc T ti g tt tk tv (own.map (·.2))) (qgN i)) := by
  unfold setLcB at hy
  simp only [Bool.and_eq_true, decide_eq_true_eq] at hy
  have ok : BlkOk X.N X.env.scope scope own := by
    rw [c.hN, c.hs]
    exact blkOk_by hb
  have cb := fun s H C cl fp => c.blk (scope := scope) ok.kind s H C cl fp
  obtain ⟨wi, p0, a0⟩ := hi
  refine ⟨⟨_, ps_setDcG (i := i) (g := liftG X.K ws g) (tt := DL.lift relT X.K tt) (tk := DL.lift (RV X.K) X.K tk) (tv := DL.lift (RV X.K) X.K tv) (emp_T T) c.hu c.calm (by rw [c.hN]; exact c.nd) (by rw [c.hN]; exact hy.1) (by rw [c.hs]; exact hy.2) ((swaps_S c _ _ _).trans hsw) p0 ok (fun s H C cl fp => (hg _ (cb s H C cl fp)).lift) (fun s H C cl fp => (ht _ (cb s H C cl fp)).lift) (fun s H C cl fp => (hk _ (cb s H C cl fp)).lift) (fun s H C cl fp => (he _ (cb s H C cl fp)).lift) hs,
    fun F σ H ε st Dd D R E h kk => ?_⟩⟩
  refine dcomp_sim (K := X.K) hw a0 (fun F σ H ε st v x Qd Q R E r q kk => ⟨F, ε, st, x, Qd, R, E, r, q, kk⟩) lift_sg lift_sg lift_sg F σ H ε st _ _ R E h fun F1 v H1 x st1 s1 R1 r q => ?_
  exact kk.nx F1 _ H1 _ st1 s1 R1 ((E.mono s1.ex).set r i) q
end
end DL
end
section
set_option Elab.async false
set_option linter.all false
set_option maxRecDepth 100000
set_option maxHeartbeats 3200000
namespace L2
open PySem PySem.Spec PyProof.Rows
section
variable {P : Program} {w : World} {A : Around} {E : Value → Shared → Prop} {s : Shared}
/-- an empty set's object -/
def set0 (w : World) : Obj := { cls := .type "set", dict := none, data := .set #[] 0 (.fresh 0 0 (!w.params.followText "set-order")) }
/-- the set is filled from the list -/
theorem set_init_listI {l : Addr} {items : Array Value} (ns : List Int) (hh : A.handled = none) (hl : s.heap.IsList l items) (hit : IntsAre items.toList ns) (hb : ns.length + 1 < scanBound) :
    wpAny (model P w) A (Builtin.«set.__init__» ⟨[.ref s.heap.objs.size, .ref l], []⟩) (fun f s₂ => ∃ h' tk c, f = .done (.ret .none) ∧ s₂ = { s with heap := h', toks := tk } ∧ SetR w h' s.heap.objs.size (fun j => decide (j ∈ ns)) c ∧ c ≤ ns.length ∧ ∀ b o, s.heap.get? b = some o → h'.get? b = some o) E
      { s with heap := s.heap.push (set0 w) } := by
  have hisz : items.size = ns.length := by
    have q := IntsAre.length hit
    rw [Array.length_toList] at q
    exact q
  have hS : (s.heap.push (set0 w)).get? s.heap.objs.size = some (set0 w) := Heap.get?_push_size _ rfl
  have hsls := F.sub_list_set
  have hslf := F.sub_list_frozenset
  have hne : (Value.type "list" == Value.type "dict") = false := by decide
  obtain ⟨ol, hol, hcl, nl, hdl⟩ := id hl
  obtain ⟨ocls, odict, odata, oslots⟩ := ol
  simp only at hcl hdl
  subst hcl; subst hdl
  have hol' : (s.heap.push (set0 w)).get? l = some { cls := .type "list", dict := odict, data := .seq items nl, slots := oslots } := Heap.get?_push_of_some _ hol
  have hl1 : (s.heap.push (set0 w)).IsList l items := ⟨_, hol', rfl, nl, rfl⟩
  have hlS : l < s.heap.objs.size := Heap.lt_size hol
  have hsz : (s.heap.push (set0 w)).objs.size = s.heap.objs.size + 1 := Heap.size_push ..
  have hneI : l ≠ (s.heap.push (set0 w)).objs.size := by rw [hsz]; exact Nat.ne_of_lt (Nat.lt_succ_of_lt hlS)
  have hSf : s.heap.objs.size ∉ [(s.heap.push (set0 w)).objs.size, l] := by
    rw [hsz]
    simp only [List.mem_cons, List.not_mem_nil, or_false, not_or]
    exact ⟨Nat.ne_of_lt (Nat.lt_succ_self _), Nat.ne_of_gt hlS⟩
  have hval : ∀ (i : Nat) (v : Value), items[i]? = some v → ∃ k t, ns[i]? = some k ∧ v = .int k t := fun i v hv => by
    have hi : i < ns.length := by rw [← hisz]; exact (Array.getElem?_eq_some_iff.mp hv).1
    obtain ⟨t, e⟩ := PyProof.Rows.IntsAre.int_at hit i v (by rw [Array.getElem?_toList]; exact hv)
    exact ⟨ns[i], t, List.getElem?_eq_getElem hi, by rw [e, List.getD_eq_getElem?_getD, List.getElem?_eq_getElem hi] <;> rfl⟩
  unfold Builtin.«set.__init__» noKeywords Builtin.Frozenset.updateFrom
  generalize hPI : pyIter = PI
  wp_walk
  subst hPI
  refine wpAny_pyIter_list hl1 ?_
  refine wpAny_bind (wpAny_runValue ?_)
  have hh3 : A.in1.handled = none := by simp [hh]
  refine set_update_ints ((Walks.list hh3 _ l hneI items).toS) s.heap.objs.size hSf ns hisz hb hval (items.size - 0) 0 _ (by omega) (Nat.zero_le _) ⟨⟨_, Heap.get?_push_size _ rfl, rfl, rfl⟩, (hl1.push _)⟩ ?hS0 ?hR
  case hS0 => exact ⟨0, Nat.le_refl 0, setR_new_at (Heap.get?_push_of_some _ hS)⟩
  case hR =>
    intro s' c' hm hc' hS'
    obtain ⟨h', g2, d', tk', os'⟩ := s'
    have eg : g2 = s.gens := hm.gens
    have ed : d' = s.drawn := hm.drawn
    have eo : os' = s.os := hm.os
    subst eg; subst ed; subst eo
    rw [hisz] at hc'
    refine wpAny_pure ?_
    refine wpAny_pure ⟨h', tk', c', rfl, rfl, hS', hc', fun b o e => ?_⟩
    have hb0 : b < s.heap.objs.size := Heap.lt_size e
    refine hm.heap b o ?_ (Heap.get?_push_of_some _ (Heap.get?_push_of_some _ e))
    rw [hsz]
    simp only [List.mem_cons, List.not_mem_nil, or_false, not_or]
    exact ⟨Nat.ne_of_lt hb0, Nat.ne_of_lt (Nat.lt_succ_of_lt hb0)⟩
/-- set(xs), xs a list of ints -/
theorem call_set_listI {l : Addr} {items : Array Value} (ns : List Int) {Q : Value → Shared → Prop} (hh : A.handled = none) (hl : s.heap.IsList l items) (hit : IntsAre items.toList ns) (hb : ns.length + 1 < scanBound)
    (h : ∀ (h' : Heap) (tk c : Nat), SetR w h' s.heap.objs.size (fun j => decide (j ∈ ns)) c → c ≤ ns.length → (∀ b o, s.heap.get? b = some o → h'.get? b = some o) → Q (.ref s.heap.objs.size) { s with heap := h', toks := tk }) :
    wpAny (model P w) A (call (.type "set") [.ref l]) Q E s := by
  obtain ⟨c, tl, hmro⟩ := F.called_set.mro
  have hmade := F.called_set.made
  have hsub := F.called_set.sub
  have h1 := F.called_set.notType
  have h2 := F.called_set.canCreate
  have hct := F.typeCall_set_1 (.ref l)
  refine wpAny_call (codeAny_of_tree ?_)
  show wpAny _ _ (callAny (.type "set") _) _ _ _
  refine wpAny_pure ⟨Code.quiet_builtin _ (by decide +kernel), codeAny_builtin F.entry_type_call ?_⟩
  rw [Around.under_plain (weight_type_call_type "set" [.ref l] []) rfl]
  repeat (any_goals (first | assumption | wp_step))
  refine codeAny_mono (code_set_led1 (.ref l) (E := E) (Q₁ := fun obj s₁ => obj = .ref s.heap.objs.size ∧ s₁ = { s with heap := s.heap.push (set0 w) }) ⟨rfl, rfl⟩) fun r s₁ hr => ?_
  cases r with
  | error e => exact hr
  | ok fl =>
    cases fl with
    | ret obj =>
      obtain ⟨rfl, rfl⟩ := hr
      have hT : Shared.TypeIs { s with heap := s.heap.push (set0 w) } (.ref s.heap.objs.size) "set" := ⟨_, Heap.get?_push_size _ rfl, rfl⟩
      have hli := F.called_set.init.lookup
      have hbi := F.called_set.init.bind (.ref s.heap.objs.size)
      repeat (any_goals (first | assumption | wp_step))
      refine codeAny_mono (codeAny_call_builtin (R := wants (fun r s₂ => r = .none ∧ ∃ h' tk c, s₂ = { s with heap := h', toks := tk } ∧ SetR w h' s.heap.objs.size (fun j => decide (j ∈ ns)) c ∧ c ≤ ns.length ∧
          (∀ b o, s.heap.get? b = some o → h'.get? b = some o)) E) F.called_set.init.plain F.entry_set_init (check_set_init_1 hT ?_)) fun r₂ s₂ hr₂ => ?_
      · refine wpAny_mono (set_init_listI ns (by simp [hh]) hl hit hb) (fun f s2 ⟨h', tk, c, e1, e2, e3, e4, e5⟩ => ?_) fun _ _ e => e
        subst e1
        exact ⟨rfl, h', tk, c, e2, e3, e4, e5⟩
      · cases r₂ with
        | error e => exact hr₂
        | ok fl₂ =>
          cases fl₂ with
          | ret r =>
            obtain ⟨rfl, h', tk, c', rfl, hS', hc', hk'⟩ := hr₂
            repeat (any_goals (first | assumption | wp_step))
            exact h _ _ _ hS' hc' hk'
          | _ => exact hr₂.elim
    | _ => exact hr.elim
end
def tSortSetL (K : PySem.W.Frag) (ta : TE) : TE := fun σ H Q => ta σ H fun x H1 => ∃ (p : Addr) (ns : List Int), x = .ref p ∧ SqL K H1 p (ns.map V.int) ∧ ns.length < 60 ∧
  ∀ (out : List Int) (q : Addr), out.Pairwise (· < ·) → (∀ k, k ∈ out ↔ k ∈ ns) → H1 q = none → Q (.ref q) (upd H1 q (.lst (out.map V.int)))
theorem pe_sortSetL {X : Cx} {a : Expr} {ta : TE} {p p2 q pos : Pos} (hc : X.calm = true) (hg : Gl X "sorted") (hm : X.mg "sorted" = none) (hg2 : Gl X "set") (hm2 : X.mg "set" = none) (ha : PE X a ta)
    (na : starEach [a] X.env = (false, eval a X.env) :: starEach [] X.env := by rfl) : PE X (.Call (.Name "sorted" p) [.Call (.Name "set" p2) [a] [] q] [] pos) (tSortSetL X.K ta) := by
  refine ⟨fun pins s σ H Q I h => ?_⟩
  refine Call_ (ld_blt I hg hm bb_sorted2 ?_)
  refine PyProof.Rows.callWith_builtin1 (PyProof.Rows.args_cons ?_ rfl) rfl rfl
  refine Call_ (ld_blt I hg2 hm2 boot_set ?_)
  refine PyProof.Rows.callWith_type1 (PyProof.Rows.args_cons (thn (ha.run pins s σ H _ I h) fun v s1 ⟨x, H1, I1, r1, q1⟩ => PyProof.Rows.args_nil ?_) na) na rfl
  obtain ⟨p0, ns, rfl, hq, hl, q1⟩ := q1
  cases r1
  obtain ⟨its, rv, pt, hz⟩ := I1.list hq
  have hi : IntsAre its.toArray.toList ns := ints_of_vals rv
  refine call_set_listI ns (I1.ok.hd hc) pt.isList hi (by unfold scanBound; omega) fun h' tk c R1 hcn k => ?_
  refine PyProof.Rows.args_nil ?_
  have I2 : Inv X pins σ H1 { s1 with heap := h', toks := tk } := I1.kept (t' := tk) k
  refine sorted_set R1 (I2.ok.hd hc) (by omega) fun s' pp out c2 ns' k2 g o hp hg hi2 hs hmem hl2 => ?_
  have hlen : (ns'.map V.int).length ≤ sizeLine := by rw [List.length_map, hl2, sizeLine_eq]; omega
  have hn : H1 pp = none := I2.hok.fresh hp
  have hQ := q1 ns' pp hs (fun j => by rw [hmem j, decide_eq_true_eq]) hn
  clear q1
  generalize hs2 : ({ s1 with heap := h', toks := tk } : Shared) = s2 at I2 k2 g o hp
  have J : Inv X pins σ (upd H1 pp (.lst (ns'.map V.int))) { s2 with heap := s'.heap, gens := s'.gens, drawn := s'.drawn, toks := s'.toks } :=
    I2.call (ch := []) (Un.laid k2 hp hn) (I2.hok.laid k2 hp ⟨hlen, out.toList, c2, vals_of_ints hi2, hg⟩) (by rw [g]; exact I2.bare) (fun _ z => nomatch z)
  have e : s' = { s2 with heap := s'.heap, gens := s'.gens, drawn := s'.drawn, toks := s'.toks } := by
    cases s'
    cases s2
    cases o
    rfl
  rw [e]
  exact ⟨.ref pp, _, J, rfl, hQ⟩
end L2
namespace DL
open PySem PySem.Spec L2 PyProof.Rows
variable [tB : Tb] [gR : Gr]
section
variable {P : Program} {w : World} {K : PySem.W.Frag} {mg : Str → Option Value} {base : Heap} {X : Cx} {N : List Str} {sc fs : Scope} {k : Nat}
def qSortIL (m : Bool) (te : TD) : TD := fun ε st Q => te ε st fun x s1 => match litems s1 x with
  | some l => (match dints l with
    | some ns => ns.length < 60 ∧ newL m ((sortIU ns).map fun i => .d (.int i)) s1 Q
    | none => False)
  | none => False
/-- sorted(set(xs)), xs a list of ints -/
theorem de_sortIL {e : Expr} {te : TD} {p p2 pos pos2 : Pos} (m : Bool) (c : Cok P w K mg base X N sc fs k) (hg : glB sc "sorted" = true) (hm : mg "sorted" = none) (hg2 : glB sc "set" = true) (hm2 : mg "set" = none) (ha : DE X e te)
    (he : starEach [e] X.env = (false, eval e X.env) :: starEach [] X.env := by rfl) : DE X (.Call (.Name "sorted" p) [.Call (.Name "set" p2) [e] [] pos2] [] pos) (qSortIL m te) := by
  obtain ⟨t1, p1, a1⟩ := ha
  have g := gl_of c hg
  have g2 := gl_of c hg2
  refine ⟨⟨_, pe_sortSetL c.calm g.1 (by rw [c.hmg]; exact hm) g2.1 (by rw [c.hmg]; exact hm2) p1 he, fun F σ H ε st Qd Q R E h kk => ?_⟩⟩
  refine a1.go (W := fun x H1 => _) R E h kk fun F1 H1 s1 v y R1 E1 rv q kk => ?_
  split at q
  rotate_left
  · exact q.elim
  rename_i l el
  split at q
  rotate_left
  · exact q.elim
  rename_i ns en
  obtain ⟨hl, q⟩ := q
  obtain ⟨pa, vs, rfl, hF, s⟩ := litems_rv R1 rv el
  obtain ⟨rfl, rfl⟩ := dints_rvs s en
  refine ⟨pa, ns, rfl, hF, hl, fun out pp h1 h2 hp => ?_⟩
  have e : out = sortIU ns := asc_ext h1 (asc_sortIU _) fun x => by rw [h2 x, mem_sortIU]
  rw [e]
  exact new_lst R1 (rvs_ints _) hp q kk
end
end DL
end
section
set_option Elab.async false
set_option linter.all false
set_option maxRecDepth 100000
namespace RD
open PySem L2 DL
/-- _law_moved(a, m, j) slots: 0=a 1=m 2=j 3=k -/
def rd_law_moved : TDs :=
  (qRet (qCB qTupleC (qCons (qLc false (qiRng1 (qCons (qCB qLen (qCons (qv 0) qNil)) qNil)) (qgN 3) qYes (qOp (qAdd false) (qOp qSub (qOp qIx (qv 0) (qv 3)) (qIf (qTest (qOp qEq (qv 3) (qv 1))) (qc (.d (.int 1))) (qc (.d (.int 0))))) (qIf (qTest (qOp qEq (qv 3) (qv 2))) (qc (.d (.int 1))) (qc (.d (.int 0))))) [3]) qNil)))
/-- _law_hull(monomials) slots: 0=monomials 1=found 2=at 3=a 4=m 5=b 6=j -/
def rd_law_hull (sp_law_moved : SpD) (sp_law_least : SpD) : TDs :=
  (qSeq (qAsg (qCB (qListC true) (qCons (qv 0) qNil)) (qgN 1))
  (qSeq (qFor (qiRng1 (qCons (qc (.d (.int 5000))) qNil)) (qgN 2) (qIfS (qTest (qOp qLt (qv 2) (qCB qLen (qCons (qv 1) qNil)))) (qSeq (qAsg (qOp qIx (qv 1) (qv 2)) (qgN 3))
          (qFor (qiRng1 (qCons (qCB qLen (qCons (qv 3) qNil)) qNil)) (qgN 4) (qIfS (qTest (qOp qGt (qOp qIx (qv 3) (qv 4)) (qc (.d (.int 0))))) (qDrop (qExtend (qv 1) (qLc false (qiSeq (qLc false (qiRng1 (qCons (qv 4) qNil)) (qgN 6) qYes (qCall sp_law_moved (qCons (qv 3) (qCons (qv 4) (qCons (qv 6) qNil)))) [6])) (qgN 5) (qTest (qOp (qIn true) (qv 5) (qv 1))) (qv 5) [5]))) qNext))) qNext))
  (qRet (qCall sp_law_least (qCons (qv 1) qNil)))))
/-- _law_bent(m, generators) slots: 0=m 1=generators 2=k 3=a 4=spot 5=more -/
def rd_law_bent (sp_law_draw : SpD) (sp_law_least : SpD) : TDs :=
  (qSeq (qIfS (qTest (qOp qEq (qv 1) (qTup qNil))) (qRet (qTup qNil)) qNext)
  (qSeq (qAsg (qCall sp_law_draw (qCons (qv 0) (qCons (qCB qLen (qCons (qv 1) qNil)) qNil))) (qgN 2))
  (qSeq (qAsg (qOp qIx (qv 1) (qv 2)) (qgN 3))
  (qSeq (qAsg (qCall sp_law_draw (qCons (qv 0) (qCons (qCB qLen (qCons (qv 3) qNil)) qNil))) (qgN 4))
  (qSeq (qAsg (qIf (qTest (qOp qEq (qCall sp_law_draw (qCons (qv 0) (qCons (qc (.d (.int 2))) qNil))) (qc (.d (.int 0))))) (qLst false qNil) (qLst false (qCons (qOp (qAdd false) (qOp (qAdd false) (qSl false (qv 3) qNoPart (qPart (qv 4))) (qTup (qCons (qOp (qAdd false) (qOp qIx (qv 3) (qv 4)) (qc (.d (.int 1)))) qNil))) (qSl false (qv 3) (qPart (qOp (qAdd false) (qv 4) (qc (.d (.int 1))))) qNoPart)) qNil))) (qgN 5))
  (qRet (qCall sp_law_least (qCons (qOp (qAdd false) (qOp (qAdd false) (qCB (qListC false) (qCons (qSl false (qv 1) qNoPart (qPart (qv 2))) qNil)) (qCB (qListC false) (qCons (qSl false (qv 1) (qPart (qOp (qAdd false) (qv 2) (qc (.d (.int 1))))) qNoPart) qNil))) (qv 5)) qNil))))))))
/-- stepped(monomial, m, j) slots: 0=monomial 1=m 2=j 3=row -/
def rd_stepped : TDs :=
  (qSeq (qAsg (qCB (qListC true) (qCons (qv 0) qNil)) (qgN 3))
  (qSeq (qLAug (qv 3) (qv 1) (qc (.d (.int 1))) (fun i j => i - j))
  (qSeq (qLAug (qv 3) (qv 2) (qc (.d (.int 1))) (fun i j => i + j))
  (qRet (qCB qTupleC (qCons (qv 3) qNil))))))
/-- steps_down(monomial) slots: 0=monomial 1=found 2=m 3=j -/
def rd_steps_down (sp_support_of : SpD) (sp_stepped : SpD) : TDs :=
  (qSeq (qAsg (qLst true qNil) (qgN 1))
  (qSeq (qFor (qiSeq (qCall sp_support_of (qCons (qv 0) qNil))) (qgN 2) (qDrop (qExtend (qv 1) (qLc false (qiRng1 (qCons (qv 2) qNil)) (qgN 3) qYes (qCall sp_stepped (qCons (qv 0) (qCons (qv 2) (qCons (qv 3) qNil)))) [3]))))
  (qRet (qv 1))))
/-- is_held(generators, monomial) slots: 0=generators 1=monomial 2=generator -/
def rd_is_held (sp_divides : SpD) : TDs :=
  (qRet (qCB qAny (qCons (qLc false (qiSeq (qv 0)) (qgN 2) qYes (qCall sp_divides (qCons (qv 2) (qCons (qv 1) qNil))) [2]) qNil)))
/-- added_degree(lower, some) slots: 0=lower 1=some 2=found 3=met 4=at 5=other 6=monomial -/
def rd_added_degree (sp_is_held : SpD) (sp_steps_down : SpD) : TDs :=
  (qSeq (qAsg (qLc true (qiSeq (BS.qSortB false (qv 1))) (qgN 6) (qNotT (qTest (qCall sp_is_held (qCons (qv 0) (qCons (qv 6) qNil))))) (qv 6) [6]) (qgN 2))
  (qSeq (qAsg (qDc true (qiSeq (qv 2)) (qgN 6) qYes (qv 6) (qc (.d (.bool true))) [6]) (qgN 3))
  (qSeq (qAsg (qc (.d (.int 0))) (qgN 4))
  (qSeq (qWhile (qTest (qOp qLt (qv 4) (qCB qLen (qCons (qv 2) qNil)))) (qSeq (qIfS (qTest (qOp qGt (qOp (qAdd false) (qCB qLen (qCons (qv 0) qNil)) (qCB qLen (qCons (qv 2) qNil))) (qc (.d (.int 60))))) qNever qNext)
      (qSeq (qFor (qiSeq (qCall sp_steps_down (qCons (qOp qIx (qv 2) (qv 4)) qNil))) (qgN 5) (qIfS (qAndT (qTest (qOp (qDIn true) (qv 5) (qv 3))) (qNotT (qTest (qCall sp_is_held (qCons (qv 0) (qCons (qv 5) qNil)))))) (qSeq (qDPut (qv 3) (qv 5) (qc (.d (.bool true))))
              (qDrop (qAppend (qv 2) (qv 5)))) qNext))
      (qAug 4 (qc (.d (.int 1))) (fun i j => i + j)))))
  (qRet (qOp (qAdd false) (qv 0) (qv 2)))))))
/-- stable_hull(n, monomials) slots: 0=n 1=monomials 2=generators 3=degree 4=monomial 5=one -/
def rd_stable_hull (sp_degree_of : SpD) (sp_added_degree : SpD) (sp_made : SpD) : TDs :=
  (qSeq (qAsg (qLst false qNil) (qgN 2))
  (qSeq (qFor (qiSeq (qSortIL false (qLc false (qiSeq (qv 1)) (qgN 4) qYes (qCall sp_degree_of (qCons (qv 4) qNil)) [4]))) (qgN 3) (qAsg (qCall sp_added_degree (qCons (qv 2) (qCons (qLc false (qiSeq (qv 1)) (qgN 5) (qTest (qOp qEq (qCall sp_degree_of (qCons (qv 5) qNil)) (qv 3))) (qv 5) [5]) qNil))) (qgN 2)))
  (qRet (qCall sp_made (qCons (qv 0) (qCons (qv 2) qNil))))))
/-- _law_squarefree(m, n, count) slots: 0=m 1=n 2=count -/
def rd_law_squarefree (sp_law_ideal : SpD) : TDs :=
  (qRet (qCall sp_law_ideal (qCons (qv 0) (qCons (qv 1) (qCons (qv 2) (qCons (qc (.d (.int 1))) qNil))))))
/-- _law_strong_place(generators) slots: 0=generators 1=place 2=a 3=m 4=j -/
def rd_law_strong_place (sp_law_moved : SpD) (sp_law_in : SpD) : TDs :=
  (qSeq (qFor (qiRng1 (qCons (qCB qLen (qCons (qv 0) qNil)) qNil)) (qgN 1) (qSeq (qAsg (qOp qIx (qv 0) (qv 1)) (qgN 2))
      (qFor (qiRng1 (qCons (qCB qLen (qCons (qv 2) qNil)) qNil)) (qgN 3) (qFor (qiRng1 (qCons (qv 3) qNil)) (qgN 4) (qIfS (qAndT (qTest (qOp qGt (qOp qIx (qv 2) (qv 3)) (qc (.d (.int 0))))) (qNotT (qTest (qCall sp_law_in (qCons (qv 0) (qCons (qCall sp_law_moved (qCons (qv 2) (qCons (qv 3) (qCons (qv 4) qNil)))) qNil)))))) (qRet (qTup (qCons (qv 1) (qCons (qv 3) (qCons (qv 4) qNil))))) qNext)))))
  (qRet (qc (.d .none))))
/-- _law_stable_place(generators) slots: 0=generators 1=place 2=a 3=last 4=j 5=k -/
def rd_law_stable_place (sp_law_moved : SpD) (sp_law_in : SpD) : TDs :=
  (qSeq (qFor (qiRng1 (qCons (qCB qLen (qCons (qv 0) qNil)) qNil)) (qgN 1) (qSeq (qAsg (qOp qIx (qv 0) (qv 1)) (qgN 2))
      (qSeq (qAsg (qCB qMax1 (qCons (qOp (qAdd false) (qLc false (qiRng1 (qCons (qCB qLen (qCons (qv 2) qNil)) qNil)) (qgN 5) (qTest (qOp qGt (qOp qIx (qv 2) (qv 5)) (qc (.d (.int 0))))) (qv 5) [5]) (qLst false (qCons (qUn qNeg (qc (.d (.int 1)))) qNil))) qNil)) (qgN 3))
      (qFor (qiRng1 (qCons (qv 3) qNil)) (qgN 4) (qIfS (qNotT (qTest (qCall sp_law_in (qCons (qv 0) (qCons (qCall sp_law_moved (qCons (qv 2) (qCons (qv 3) (qCons (qv 4) qNil)))) qNil))))) (qRet (qTup (qCons (qv 1) (qCons (qv 4) qNil)))) qNext)))))
  (qRet (qc (.d .none))))
/-- strong_breach(ideal) slots: 0=ideal 1=place 2=generator 3=m 4=j -/
def rd_strong_breach (sp_support_of : SpD) (sp_stepped : SpD) (sp_contains : SpD) : TDs :=
  (qSeq (qFor (qiEnum (qCons (qOp qIx (qv 0) (qc (.d (.int 1)))) qNil)) (qgT 2 (qgCons (qgN 1) (qgCons (qgN 2) qgNil))) (qFor (qiSeq (qCall sp_support_of (qCons (qv 2) qNil))) (qgN 3) (qFor (qiRng1 (qCons (qv 3) qNil)) (qgN 4) (qIfS (qNotT (qTest (qCall sp_contains (qCons (qv 0) (qCons (qCall sp_stepped (qCons (qv 2) (qCons (qv 3) (qCons (qv 4) qNil)))) qNil))))) (qRet (qTup (qCons (qv 1) (qCons (qv 3) (qCons (qv 4) qNil))))) qNext))))
  (qRet (qc (.d .none))))
/-- stable_breach(ideal) slots: 0=ideal 1=place 2=generator 3=m 4=j -/
def rd_stable_breach (sp_support_of : SpD) (sp_stepped : SpD) (sp_contains : SpD) : TDs :=
  (qSeq (qFor (qiEnum (qCons (qOp qIx (qv 0) (qc (.d (.int 1)))) qNil)) (qgT 2 (qgCons (qgN 1) (qgCons (qgN 2) qgNil))) (qFor (qiSeq (qSl false (qCall sp_support_of (qCons (qv 2) qNil)) (qPart (qUn qNeg (qc (.d (.int 1))))) qNoPart)) (qgN 3) (qFor (qiRng1 (qCons (qv 3) qNil)) (qgN 4) (qIfS (qNotT (qTest (qCall sp_contains (qCons (qv 0) (qCons (qCall sp_stepped (qCons (qv 2) (qCons (qv 3) (qCons (qv 4) qNil)))) qNil))))) (qRet (qTup (qCons (qv 1) (qCons (qv 4) qNil)))) qNext))))
  (qRet (qc (.d .none))))
/-- _law_right(ideal) slots: 0=ideal 1=generators 2=strong 3=weak -/
def rd_law_right (sp_law_stable_place : SpD) (sp_law_strong_place : SpD) (sp_stable_breach : SpD) (sp_strong_breach : SpD) (sp_stable_hull : SpD) : TDs :=
  (qSeq (qAsg (qOp qIx (qv 0) (qc (.d (.int 1)))) (qgN 1))
  (qSeq (qPar 2 3 (qCons (qCall sp_law_strong_place (qCons (qv 1) qNil)) (qCons (qCall sp_law_stable_place (qCons (qv 1) qNil)) qNil)))
  (qSeq (qIfS (qTest (qOp qNeS (qCB qRepr (qCons (qLst false (qCons (qCall sp_strong_breach (qCons (qv 0) qNil)) (qCons (qCall sp_stable_breach (qCons (qv 0) qNil)) qNil))) qNil)) (qCB qRepr (qCons (qLst false (qCons (qv 2) (qCons (qv 3) qNil))) qNil)))) (qRet (qc (.d (.bool false)))) qNext)
  (qSeq (qIfS (qAndT (qTest (qOp qIsN (qv 2) (qc (.d .none)))) (qTest (qOp qNotN (qv 3) (qc (.d .none))))) (qRet (qc (.d (.bool false)))) qNext)
  (qRet (qOp qEq (qOp qEq (qCall sp_stable_hull (qCons (qOp qIx (qv 0) (qc (.d (.int 0)))) (qCons (qv 1) qNil))) (qv 0)) (qOp qIsN (qv 2) (qc (.d .none)))))))))
/-- law(script) slots: 0=script 1=k 2=m 3=n 4=some 5=hull 6=generators 7=turn 8=a -/
def rd_law (sp_law_begun : SpD) (sp_law_draw : SpD) (sp_law_monomial : SpD) (sp_law_hull : SpD) (sp_stable_hull : SpD) (sp_law_in : SpD) (sp_law_squarefree : SpD) (sp_law_bent : SpD) (sp_law_right : SpD) : TDs :=
  (qSeq (qFor (qiRng1 (qCons (qc (.d (.int 3))) qNil)) (qgN 1) (qSeq (qAsg (qCall sp_law_begun (qCons (qv 0) (qCons (qv 1) qNil))) (qgN 2))
      (qSeq (qAsg (qOp (qAdd false) (qc (.d (.int 1))) (qCall sp_law_draw (qCons (qv 2) (qCons (qc (.d (.int 4))) qNil)))) (qgN 3))
      (qSeq (qAsg (qLc false (qiRng1 (qCons (qOp (qAdd false) (qc (.d (.int 1))) (qCall sp_law_draw (qCons (qv 2) (qCons (qc (.d (.int 3))) qNil)))) qNil)) (qgN 7) qYes (qCall sp_law_monomial (qCons (qv 2) (qCons (qv 3) (qCons (qc (.d (.int 2))) qNil)))) [7]) (qgN 4))
      (qSeq (qAsg (qLc false (qiSeq (qv 4)) (qgN 8) (qTest (qChain qLt qLe (qc (.d (.int 0))) (qCB qSum (qCons (qv 8) qNil)) (qc (.d (.int 4))))) (qv 8) [8]) (qgN 4))
      (qSeq (qAsg (qCall sp_law_hull (qCons (qv 4) qNil)) (qgN 5))
      (qSeq (qIfS (qOrT (qTest (qOp qNe (qCall sp_stable_hull (qCons (qv 3) (qCons (qv 4) qNil))) (qTup (qCons (qv 3) (qCons (qv 5) qNil))))) (qTest (qOp qNe (qCall sp_stable_hull (qCons (qv 3) (qCons (qCB qTupleC (qCons (qRevL false (qv 4)) qNil)) qNil))) (qTup (qCons (qv 3) (qCons (qv 5) qNil)))))) (qRet (qc (.d (.bool false)))) qNext)
      (qSeq (qIfS (qTest (qOp qNe (qLc false (qiSeq (qv 4)) (qgN 8) (qNotT (qTest (qCall sp_law_in (qCons (qv 5) (qCons (qv 8) qNil))))) (qv 8) [8]) (qLst false qNil))) (qRet (qc (.d (.bool false)))) qNext)
      (qFor (qiSeq (qLst false (qCons (qv 5) (qCons (qCall sp_law_bent (qCons (qv 2) (qCons (qv 5) qNil))) (qCons (qOp qIx (qCall sp_law_squarefree (qCons (qv 2) (qCons (qv 3) (qCons (qc (.d (.int 4))) qNil)))) (qc (.d (.int 1)))) qNil))))) (qgN 6) (qIfS (qNotT (qTest (qCall sp_law_right (qCons (qTup (qCons (qv 3) (qCons (qv 6) qNil))) qNil)))) (qRet (qc (.d (.bool false)))) qNext))))))))))
  (qRet (qAndV (qOp qEq (qCall sp_stable_hull (qCons (qc (.d (.int 2))) (qCons (qLst false (qCons (qTup (qCons (qc (.d (.int 0))) (qCons (qc (.d (.int 0))) qNil))) (qCons (qTup (qCons (qc (.d (.int 0))) (qCons (qc (.d (.int 3))) qNil))) qNil))) qNil))) (qTup (qCons (qc (.d (.int 2))) (qCons (qTup (qCons (qTup (qCons (qc (.d (.int 0))) (qCons (qc (.d (.int 0))) qNil))) qNil)) qNil)))) (qOp qEq (qCall sp_stable_hull (qCons (qc (.d (.int 3))) (qCons (qLst false qNil) qNil))) (qTup (qCons (qc (.d (.int 3))) (qCons (qTup qNil) qNil)))))))
end RD
end
section
set_option Elab.async false
set_option linter.all false
set_option maxRecDepth 100000
set_option maxHeartbeats 1000000
open PySem L2 DL RD UC
local macro_rules | `(tactic| walk_at "E") => `(tactic| (try simp only [qAsg, qRet, qDrop, qIfS, qTest, qAndT, qOrT, qNotT, qAndV, qOrV, qNotV, qIf, qOp, qUn, qChain, onB, qv, qc, qgN, qgT, qgCons, qgNil, qCons, qNil, qTup, qLst, qPar, qPar3, qAug, qCB, qCall, qLen, qTupleC, qListC, qMax2, qMin2, qIntC, qSum, qAny, qAll, qIsi, tyName, qAdd, qSub, qMul, qFdiv, qMod, qPow, qI2, qCmpI, qEq, qNe, qLt, qLe, qGt, qGe, qNeg, qIx, qDGet, qDIn, qDPut, qSl, qPart, qNoPart, qNext, qFor, qiSeq, qiRng1, qiRng2, qiZip, qiEnum, qLc, seqSrc, lsrc, titems, litems, sitems, fz, newL, List.getElem?_cons_zero, List.getElem?_cons_succ, List.set_cons_zero, List.set_cons_succ, if_true, if_false, Bool.false_eq_true, ite_true, ite_false, up_same, reduceIte, decide_true, decide_false, true_and, and_true]))
local macro_rules | `(tactic| walk_at "D") => `(tactic| (try simp only [qAsg, qRet, qDrop, qIfS, qTest, qAndT, qOrT, qNotT, qAndV, qOrV, qNotV, qIf, qOp, qUn, qChain, onB, qv, qc, qgN, qgT, qgCons, qgNil, qCons, qNil, qTup, qLst, qPar, qPar3, qAug, qCB, qCall, qLen, qTupleC, qListC, qMax2, qMin2, qIntC, qSum, qAny, qAll, qIsi, tyName, qAdd, qSub, qMul, qFdiv, qMod, qPow, qI2, qCmpI, qEq, qNe, qLt, qLe, qGt, qGe, qNeg, qIx, qDGet, qDIn, qDPut, qSl, qPart, qNoPart, qNext, qFor, qiSeq, qiRng1, qiRng2, qiZip, qiEnum, qLc, seqSrc, lsrc, titems, litems, sitems, fz, newL, List.getElem?_cons_zero, List.getElem?_cons_succ, List.set_cons_zero, List.set_cons_succ, if_true, if_false, Bool.false_eq_true, ite_true, ite_false, up_same, reduceIte, decide_true, decide_false, true_and, and_true, eqv_int, eqv_bool, eqv_TI, eqv_LI, eqv_TT, eqv_LT, eqv_nilL, eqv_nilT, shaped_TI, shaped_LI, shaped_TT, shaped_LT, shaped_int, shaped_bool, shaped_nilL, shaped_nilT, dints_map2, dbools_map2, datas_map, mkT_map, mkT_0, mkT_1, mkT_2, mkT_3, List.length_map, List.length_cons, List.length_nil, List.length_append, List.map_cons, List.map_nil, wipeD, Bool.not_true, Bool.not_false, eq_self, not_true_eq_false, not_false_eq_true, kitB_tt, kitB_ll, kitB_dd, kitB_bb, kitB_ib, kitB_ii, kitB_ss, kitB_tl, kitB_lt, Function.comp, datas, Option.map_some, List.cons_append, List.nil_append, CPow, le_size4, Int.toNat_natCast, rngD0, I_eq, Bo_eq, BS.qSortB, in_IT, in_IL, in_TT, in_TL, qNotN, qIsN, qSortD, qListRg, qDispT, keyX_TI, qGet, qiItems, qLockE, qLockS, qPop, qMaxDf, qLPut, qDNew, qListItems, qListDK, qLc2, qMax1, qMin1, qAppend, qExtend, tints_TI, dv_TI, Option.bind_some, qRetN, atI_0, atI_1, atI_2, mk_appT, mk_snocI, idl, rep_I, Option.map_none, eqv_idl, shaped_idl, Bool.and_self, Bool.true_and, Bool.and_true]))
local macro_rules | `(tactic| walk_at "F") => `(tactic| (try simp only [qAsg, qRet, qDrop, qIfS, qTest, qAndT, qOrT, qNotT, qAndV, qOrV, qNotV, qIf, qOp, qUn, qChain, onB, qv, qc, qgN, qgT, qgCons, qgNil, qCons, qNil, qTup, qLst, qPar, qPar3, qAug, qCB, qCall, qLen, qTupleC, qListC, qMax2, qMin2, qIntC, qSum, qAny, qAll, qIsi, tyName, qAdd, qSub, qMul, qFdiv, qMod, qPow, qI2, qCmpI, qEq, qNe, qLt, qLe, qGt, qGe, qNeg, qIx, qDGet, qDIn, qDPut, qSl, qPart, qNoPart, qNext, qFor, qiRng1, qiRng2, qiZip, qiEnum, qLc, fz, newL, List.getElem?_cons_zero, List.getElem?_cons_succ, List.set_cons_zero, List.set_cons_succ, if_true, if_false, Bool.false_eq_true, ite_true, ite_false, up_same, reduceIte, decide_true, decide_false, true_and, and_true, eqv_int, eqv_bool, eqv_TI, eqv_LI, eqv_TT, eqv_LT, eqv_nilL, eqv_nilT, shaped_TI, shaped_LI, shaped_TT, shaped_LT, shaped_int, shaped_bool, shaped_nilL, shaped_nilT, dints_map2, dbools_map2, datas_map, mkT_map, mkT_0, mkT_1, mkT_2, mkT_3, List.length_map, List.length_cons, List.length_nil, List.length_append, List.map_cons, List.map_nil, wipeD, Bool.not_true, Bool.not_false, eq_self, not_true_eq_false, not_false_eq_true, kitB_tt, kitB_ll, kitB_dd, kitB_bb, kitB_ib, kitB_ii, kitB_ss, kitB_tl, kitB_lt, Function.comp, datas, Option.map_some, List.cons_append, List.nil_append, CPow, le_size4, Int.toNat_natCast, rngD0, I_eq, Bo_eq, BS.qSortB, in_IT, in_IL, in_TT, in_TL, qNotN, qIsN, qSortD, qListRg, qDispT, keyX_TI, qGet, qiItems, qLockE, qLockS, qPop, qMaxDf, qLPut, qDNew, qListItems, qListDK, qLc2, qMax1, qMin1, qAppend, qExtend, tints_TI, dv_TI, Option.bind_some, qRetN, atI_0, atI_1, atI_2, mk_appT, mk_snocI, idl, rep_I, Option.map_none, eqv_idl, shaped_idl, Bool.and_self, Bool.true_and, Bool.and_true]))
namespace U
open PySem L2 DL RD UC
theorem le_upN {st s : Sto} {p : Addr} {m : MO} (hp : st p = none) (h : Le st s) : Le st (up s p m) := fun b z e => by
  have hb : b ≠ p := fun c => by rw [c, hp] at e; cases e
  rw [up_ne hb]
  exact h _ _ e
theorem gd_set {a : List Int} {m k : Nat} {v : Int} (h : m < a.length) : gd (a.set m v) k = if k = m then v else gd a k := by
  unfold gd
  rw [List.getD_eq_getElem?_getD, List.getD_eq_getElem?_getD, List.getElem?_set]
  by_cases e : m = k
  · subst e
    rw [if_pos rfl, if_pos h, if_pos rfl]
    rfl
  · rw [if_neg e, if_neg (Ne.symm e)]
theorem mv_set {a : List Int} {m j : Nat} (hm : m < a.length) (hj : j < m) : (a.set m (gd a m - 1)).set j (gd (a.set m (gd a m - 1)) j + 1) = mvL a m j := by
  refine (gd_ext (n := a.length) (by rw [List.length_set, List.length_set]) (len_mv a m j)).mpr fun k hk => ?_
  rw [gd_set (by rw [List.length_set]; omega), gd_set hm, gd_set hm, gd_mv hk]
  by_cases e1 : k = j
  · subst e1
    rw [if_pos rfl, if_neg (by omega), if_neg (by omega), if_pos rfl]
    omega
  · by_cases e2 : k = m
    · subst e2
      rw [if_neg e1, if_pos rfl, if_pos rfl, if_neg e1]
      omega
    · rw [if_neg e1, if_neg e2, if_neg e2, if_neg e1]
      omega
theorem set_ints (a : List Int) (m : Nat) (v : Int) : ((a.map PyData.int).map DV.d).set m (.d (.int v)) = ((a.set m v).map PyData.int).map DV.d := by
  rw [List.map_set, List.map_set]
theorem get_ints {a : List Int} {m : Nat} (h : m < a.length) : ((a.map PyData.int).map DV.d)[m]? = some (.d (.int (gd a m))) := by
  rw [List.getElem?_map, List.getElem?_map, List.getElem?_eq_getElem h, ← gd_eq h]
  rfl
def sp_stepped : SpD := fun xs st Q => ∃ (a : List Int) (m j : Nat), xs = [.d (TI a), I m, I j] ∧ a.length ≤ 1000 ∧ m < a.length ∧ j < m ∧ Q (.d (TI (mvL a m j))) st
theorem len_stepped : ∀ xs st Q, sp_stepped xs st Q → xs.length = 3 := by rintro xs st Q ⟨a, m, j, rfl, _⟩; rfl
theorem sem_stepped : ∀ xs st Q, sp_stepped xs st Q → rd_stepped { nx := fun _ st' => Fg Q (.d .none) st', rt := Fg Q } (startD 4 xs) st := by
  rintro xs st Q ⟨a, m, j, rfl, hl, hm, hj, K⟩
  have e0 : startD 4 [.d (TI a), I m, I j] = [some (.d (TI a)), some (I m), some (I j), none] := rfl
  rw [e0]
  unfold rd_stepped
  refine seq fun N hN => ?_
  walk_at "D"
  refine fun p hp => hN _ _ ?_; clear hN N
  refine seq fun N hN => ?_
  walk_at "D"
  simp only [qLAug]
  walk_at "D"
  refine ⟨_, gd a m, rfl, by omega, get_ints hm, ?_⟩
  walk_at "D"
  refine ⟨_, rfl, by simpa using hm, ?_⟩
  rw [set_ints]
  refine hN _ _ ?_; clear hN N
  refine seq fun N hN => ?_
  walk_at "D"
  simp only [qLAug]
  walk_at "D"
  refine ⟨_, gd (a.set m (gd a m - 1)) j, rfl, by omega, get_ints (by rw [List.length_set]; omega), ?_⟩
  walk_at "D"
  refine ⟨_, rfl, by simp; omega, ?_⟩
  rw [set_ints, mv_set hm hj]
  refine hN _ _ ?_; clear hN N
  walk_at "D"
  exact fg_le (le_upN hp (le_upN hp (le_up1 hp))) K
def downs (a : List Int) : List (List Int) := (suppL a).flatMap fun m => (List.range m.toNat).map fun j => mvL a m.toNat j
theorem mem_downs {a b : List Int} : b ∈ downs a ↔ ∃ m j, 0 < gd a m ∧ j < m ∧ b = mvL a m j := by
  unfold downs
  rw [List.mem_flatMap]
  constructor
  · rintro ⟨m, hm, hb⟩
    obtain ⟨k, hk, h0, rfl⟩ := (mem_supp rfl).mp hm
    obtain ⟨j, hj, rfl⟩ := List.mem_map.mp hb
    rw [Int.toNat_natCast] at hj ⊢
    exact ⟨k, j, h0, List.mem_range.mp hj, rfl⟩
  · rintro ⟨m, j, h0, hj, rfl⟩
    refine ⟨(m : Int), (mem_supp rfl).mpr ⟨m, lt_of_pos h0, h0, rfl⟩, List.mem_map.mpr ⟨j, ?_, ?_⟩⟩
    · rw [Int.toNat_natCast]; exact List.mem_range.mpr hj
    · rw [Int.toNat_natCast]
theorem len_supp (a : List Int) : (suppL a).length ≤ a.length := by
  unfold suppL
  rw [List.length_map]
  refine Nat.le_trans (List.length_filter_le _ _) ?_
  rw [List.length_zipIdx]
  exact Nat.le_refl _
theorem len_flat {α β : Type} (f : α → List β) (k : Nat) : ∀ l : List α, (∀ x ∈ l, (f x).length ≤ k) → (l.flatMap f).length ≤ l.length * k
  | [], _ => Nat.zero_le _
  | x :: l, h => by
    rw [List.flatMap_cons, List.length_append, List.length_cons, Nat.succ_mul]
    have := len_flat f k l fun y hy => h y (List.mem_cons_of_mem _ hy)
    have := h x List.mem_cons_self
    omega
def sp_steps_down : SpD := fun xs st Q => ∃ a : List Int, xs = [.d (TI a)] ∧ a.length ≤ 12 ∧ ∀ p st', st p = none → Le st st' → st' p = some (.lst (((downs a).map TI).map .d)) → Q (.r p) st'
theorem len_steps_down : ∀ xs st Q, sp_steps_down xs st Q → xs.length = 1 := by rintro xs st Q ⟨a, rfl, _⟩; rfl
theorem sem_steps_down : ∀ xs st Q, sp_steps_down xs st Q → rd_steps_down sp_support_of sp_stepped { nx := fun _ st' => Fg Q (.d .none) st', rt := Fg Q } (startD 4 xs) st := by
  rintro xs st Q ⟨a, rfl, hl, K⟩
  have e0 : startD 4 [.d (TI a)] = [some (.d (TI a)), none, none, none] := rfl
  rw [e0]
  unfold rd_steps_down
  refine seq fun N hN => ?_
  walk_at "D"
  refine ⟨Nat.zero_le _, fun p hp => hN _ _ ?_⟩; clear hN N
  refine seq fun N hN => ?_
  walk_at "D"
  refine ⟨a, rfl, by omega, ?_⟩
  walk_at "D"
  rw [List.map_map]
  have hsl := len_supp a
  refine for_byT _ (fun i ε s => (∃ x2 x3, ε = [some (.d (TI a)), some (.r p), x2, x3]) ∧ Le st s ∧ s p = some (.lst (((((suppL a).take i).flatMap fun m => (List.range m.toNat).map fun j => mvL a m.toNat j).map TI).map .d))) ⟨⟨_, _, rfl⟩, le_up1 hp, up_same⟩ (fun _ _ _ _ => trivial) ?_ ?_
  · rintro i mI ε s hi ⟨⟨x2, x3, rfl⟩, le, hs⟩ L hL
    have hmI := List.mem_of_getElem? hi
    obtain ⟨m, hm, h0, rfl⟩ := (mem_supp rfl).mp hmI
    have hnx : ((suppL a).take (i + 1)).flatMap (fun m => (List.range m.toNat).map fun j => mvL a m.toNat j) = (((suppL a).take i).flatMap fun m => (List.range m.toNat).map fun j => mvL a m.toNat j) ++ (List.range m).map fun j => mvL a m j := by
      rw [List.take_succ, hi, List.flatMap_append]
      simp
    have hlen : (((suppL a).take i).flatMap fun m => (List.range m.toNat).map fun j => mvL a m.toNat j).length ≤ 144 := by
      refine Nat.le_trans (len_flat _ 12 _ fun x hx => ?_) ?_
      · obtain ⟨k, hk, _, rfl⟩ := (mem_supp rfl).mp (List.mem_of_mem_take hx)
        rw [List.length_map, List.length_range, Int.toNat_natCast]
        omega
      · rw [List.length_take]
        have : min i (suppL a).length ≤ 12 := by omega
        exact Nat.mul_le_mul_right 12 this
    generalize (((suppL a).take i).flatMap fun m => (List.range m.toNat).map fun j => mvL a m.toNat j) = F at hs hnx hlen
    walk_at "D"
    refine ⟨⟨_, hs⟩, by omega, by omega, by rw [List.length_range, sizeL]; omega, ?_⟩
    refine comp_mapT _ (fun (j : Nat) => DV.d (TI (mvL a m j))) trivial _ _ ?_ ?_
    · intro j hj Q2 h2
      walk_at "D"
      exact ⟨a, m, j, rfl, by omega, hm, List.mem_range.mp hj, h2⟩
    rw [List.nil_append, show (List.range m).map (fun (j : Nat) => DV.d (TI (mvL a m j))) = (((List.range m).map fun j => mvL a m j).map TI).map .d by rw [List.map_map, List.map_map]; rfl]
    walk_at "D"
    refine ⟨_, _, hs, rfl, by simp only [List.length_map, List.length_range, sizeL]; omega, ?_⟩
    refine hL _ _ ⟨⟨_, _, rfl⟩, le_upN hp le, ?_⟩
    rw [up_same, hnx, List.map_append, List.map_append]
  · rintro ε s ⟨⟨x2, x3, rfl⟩, le, hs⟩
    rw [List.take_length] at hs
    refine hN _ _ ?_
    walk_at "D"
    exact fg_ret (K p s hp le hs)
def sp_is_held : SpD := fun xs st Q => ∃ (L : List (List Int)) (c : List Int), xs = [.d (LT L), .d (TI c)] ∧ L.length ≤ 1000 ∧ Q (Bo (inL L c)) st
theorem len_is_held : ∀ xs st Q, sp_is_held xs st Q → xs.length = 2 := by rintro xs st Q ⟨L, c, rfl, _⟩; rfl
theorem sem_is_held : ∀ xs st Q, sp_is_held xs st Q → rd_is_held sp_divides { nx := fun _ st' => Fg Q (.d .none) st', rt := Fg Q } (startD 3 xs) st := by
  rintro xs st Q ⟨L, c, rfl, hl, K⟩
  have e0 : startD 3 [.d (LT L), .d (TI c)] = [some (.d (LT L)), some (.d (TI c)), none] := rfl
  rw [e0]
  unfold rd_is_held
  walk_at "D"
  refine ⟨by rw [sizeL]; omega, ?_⟩
  rw [List.map_map]
  refine comp_mapT _ (fun g => Bo (divB g c)) trivial _ _ ?_ ?_
  · intro g hg Q1 h
    walk_at "D"
    exact ⟨g, c, rfl, h⟩
  · have e1 : [] ++ L.map (fun o => Bo (divB o c)) = ((L.map fun o => divB o c).map PyData.bool).map DV.d := by
      rw [List.nil_append, List.map_map, List.map_map]
      rfl
    rw [e1]
    walk_at "D"
    refine fg_ret ?_
    have e2 : (L.map fun o => divB o c).any id = inL L c := by
      unfold inL
      rw [List.any_map]
      rfl
    rw [e2]
    exact K
def tabT (K : List (List Int)) : List (List Int × DV) := K.map fun a => (a, Bo true)
theorem len_tabT (K : List (List Int)) : (tabT K).length = K.length := List.length_map ..
theorem put_new {K : List (List Int)} {a : List Int} (h : a ∉ K) : putT (tabT K) a (Bo true) = tabT (K ++ [a]) := by
  unfold putT tabT
  rw [List.any_map, if_neg, List.map_append]
  · rfl
  · intro z
    obtain ⟨b, hb, e⟩ := List.any_eq_true.mp z
    exact h (of_decide_eq_true e ▸ hb)
theorem look_tabT (K : List (List Int)) (a : List Int) : dlook (some (.dT (tabD (tabT K)))) (.d (TI a)) = some (if a ∈ K then some (Bo true) else none) := by
  show (match titems (.d (TI a)) with | some ys => (keyT ys).map fun q => lookD (tabD (tabT K)) q | none => none) = _
  rw [show titems (.d (TI a)) = some ((a.map PyData.int).map DV.d) from rfl]
  show ((keyT ((a.map PyData.int).map DV.d)).map fun q => lookD (tabD (tabT K)) q) = _
  rw [keyT_ints]
  show some (lookD (tabD (tabT K)) (a.map Sum.inl)) = _
  congr 1
  unfold lookD tabD tabT
  rw [List.map_map]
  induction K with
  | nil => rfl
  | cons p K ih =>
    rw [List.map_cons, List.find?_cons]
    show (Option.map _ (match decide ((p.map Sum.inl : List Key) = a.map Sum.inl) with | true => _ | false => _)) = _
    rw [dec_inl]
    by_cases e : p = a
    · rw [decide_eq_true e, if_pos (by rw [e]; exact List.mem_cons_self)]
      rfl
    · rw [decide_eq_false e]
      simp only
      rw [ih]
      by_cases h : a ∈ K
      · rw [if_pos h, if_pos (List.mem_cons_of_mem _ h)]
      · rw [if_neg h, if_neg fun z => h ((List.mem_cons.mp z).resolve_left fun q => e q.symm)]
structure Lw (n : Nat) (d : Int) (L : List (List Int)) : Prop where
  nn : NNs n L
  nd : L.Nodup
  sum : ∀ a ∈ L, a.sum < d
  anti : ∀ a ∈ L, ∀ b ∈ L, divB a b = true → a = b
theorem sum_div {n : Nat} {a b : List Int} (ha : NN n a) (hb : NN n b) (h : divB a b = true) : a.sum ≤ b.sum ∧ (a.sum = b.sum → a = b) := by
  obtain ⟨c, hc, rfl⟩ := div_split ha hb h
  have h0 := nn_sum hc
  rw [sum_mul (ha.1.trans hc.1.symm)]
  refine ⟨by omega, fun e => ?_⟩
  have e2 : c.sum = 0 := by omega
  have hz : c = List.replicate n 0 := by
    clear h ha hb e h0
    obtain ⟨h1, h2⟩ := hc
    subst h1
    induction c with
    | nil => rfl
    | cons x c ih =>
      have h3 := h2 x List.mem_cons_self
      have h4 := nn_sum (n := c.length) (a := c) ⟨rfl, fun y hy => h2 y (List.mem_cons_of_mem _ hy)⟩
      rw [List.sum_cons] at e2
      have e3 : c.sum = 0 := by omega
      have e4 : x = 0 := by omega
      rw [List.length_cons, List.replicate_succ, ← ih e3 fun y hy => h2 y (List.mem_cons_of_mem _ hy), e4]
  rw [hz]
  refine (gd_ext ha.1 (lenMul ha.1 (List.length_replicate ..))).mpr fun j hj => ?_
  unfold mulL
  rw [gd_zw ha.1 (List.length_replicate ..) hj, gd_rep hj, Int.add_zero]
/-- with more of one degree -/
theorem Lw.app {n : Nat} {d : Int} {L F : List (List Int)} (h : Lw n d L) (nF : NNs n F) (ndF : F.Nodup) (hs : ∀ a ∈ F, a.sum = d) (hh : ∀ a ∈ F, inL L a = false) : Lw n (d + 1) (L ++ F) := by
  refine ⟨fun x hx => (List.mem_append.mp hx).elim (h.nn x) (nF x), List.nodup_append.mpr ⟨h.nd, ndF, fun a ha b hb e => ?_⟩, fun a ha => ?_, fun a ha b hb d => ?_⟩
  · have h1 := h.sum a ha
    have h2 := hs b hb
    rw [e, h2] at h1
    omega
  · rcases List.mem_append.mp ha with ha | ha
    · have := h.sum a ha; omega
    · have := hs a ha; omega
  · rcases List.mem_append.mp ha with ha | ha <;> rcases List.mem_append.mp hb with hb | hb
    · exact h.anti a ha b hb d
    · have := hh b hb
      rw [inL_iff.mpr ⟨a, ha, d⟩] at this
      cases this
    · have h1 := (sum_div (nF a ha) (h.nn b hb) d).1
      have h2 := h.sum b hb
      have h3 := hs a ha
      omega
    · exact (sum_div (nF a ha) (nF b hb) d).2 ((hs a ha).trans (hs b hb).symm)
theorem Lw.few {n : Nat} {d : Int} {L : List (List Int)} (h : Lw n d L) (h1 : 1 ≤ n) (h4 : n ≤ 4) (hd : d ≤ 6) : L.length ≤ 56 :=
  Nat.le_trans (few_upto (D := 5) h1 h.nd h.nn (fun a ha => by have := h.sum a ha; omega) h.anti) (degR_56 h4 (by decide))
def sp_added_degree : SpD := fun xs st Q => ∃ (L S : List (List Int)) (n : Nat) (d : Int), xs = [.d (LT L), .d (LT S)] ∧ 1 ≤ n ∧ n ≤ 4 ∧ d ≤ 5 ∧ Lw n d L ∧ NNs n S ∧ (∀ a ∈ S, a.sum = d) ∧ S.length ≤ 60 ∧
  ∀ F, NNs n F → F.Nodup → (∀ x ∈ F, Cl S x) → (∀ x ∈ F, inL L x = false) → (∀ x ∈ S, inL L x = true ∨ x ∈ F) → (∀ x ∈ F, ∀ y ∈ downs x, inL L y = true ∨ y ∈ F) → Q (.d (LT (L ++ F))) st
theorem len_added_degree : ∀ xs st Q, sp_added_degree xs st Q → xs.length = 2 := by rintro xs st Q ⟨L, S, n, d, rfl, _⟩; rfl
theorem cl_sum {S : List (List Int)} {d : Int} (h : ∀ a ∈ S, a.sum = d) {x : List Int} (c : Cl S x) : x.sum = d := by
  obtain ⟨s, hs, e⟩ := c.sum
  exact e.trans (h s hs)
theorem getD_app {α : Type} {F E : List α} {i : Nat} {z : α} (h : i < F.length) : (F ++ E).getD i z = F.getD i z := by
  rw [List.getD_eq_getElem?_getD, List.getD_eq_getElem?_getD, List.getElem?_append_left h]
theorem le_of_two {st s : Sto} {p q : Addr} (hp : st p = none) (hq : st q = none) (h : ∀ b, b ≠ p → b ≠ q → s b = st b) : Le st s := fun b m e => by
  rw [h b (fun z => by rw [z, hp] at e; cases e) (fun z => by rw [z, hq] at e; cases e)]
  exact e
/-- what is found of one degree -/
structure Fd (L S : List (List Int)) (n : Nat) (F : List (List Int)) : Prop where
  nn : NNs n F
  nd : F.Nodup
  cl : ∀ x ∈ F, Cl S x
  out : ∀ x ∈ F, inL L x = false
  all : ∀ x ∈ S, inL L x = true ∨ x ∈ F
theorem sem_added_degree : ∀ xs st Q, sp_added_degree xs st Q → rd_added_degree sp_is_held sp_steps_down { nx := fun _ st' => Fg Q (.d .none) st', rt := Fg Q } (startD 7 xs) st := by
  rintro xs st Q ⟨L, S, n, d, rfl, h1, h4, hd, hL, nS, sS, lS, K⟩
  have e0 : startD 7 [.d (LT L), .d (LT S)] = [some (.d (LT L)), some (.d (LT S)), none, none, none, none, none] := rfl
  rw [e0]
  unfold rd_added_degree
  have lL : L.length ≤ 56 := hL.few h1 h4 (by omega)
  have lenF : ∀ F, NNs n F → F.Nodup → (∀ x ∈ F, Cl S x) → (∀ x ∈ F, inL L x = false) → L.length + F.length ≤ 56 := fun F a b c e => by
    have := (hL.app a b (fun x hx => cl_sum sS (c x hx)) e).few h1 h4 (by omega)
    rw [List.length_append] at this
    exact this
  refine seq fun N hN => ?_
  walk_at "D"
  refine ⟨by omega, Nat.le_trans (sortU_len S) (by rw [sizeL]; omega), ?_⟩
  rw [List.map_map]
  refine comp_fmT _ (fun x => !inL L x) (fun x => .d (TI x)) trivial _ _ ?_ ?_
  · intro x hx Q1 Q2 h
    walk_at "D"
    refine ⟨L, x, rfl, by omega, ?_⟩
    walk_at "D"
    exact h
  intro p hp
  rw [List.nil_append, show ((sortU S).filter fun x => !inL L x).map (fun x => DV.d (TI x)) = ((((sortU S).filter fun x => !inL L x)).map TI).map .d by rw [List.map_map]; rfl]
  have hF0 : Fd L S n ((sortU S).filter fun x => !inL L x) := by
    have hm : ∀ x, x ∈ (sortU S).filter (fun x => !inL L x) ↔ x ∈ S ∧ inL L x = false := fun x => by
      rw [List.mem_filter, mem_sortU, Bool.not_eq_true']
    refine ⟨fun x hx => nS x ((hm x).mp hx).1, List.filter_sublist.nodup (ris_nodup (ris_sortU S)), fun x hx => .of ((hm x).mp hx).1, fun x hx => ((hm x).mp hx).2, fun x hx => ?_⟩
    cases e : inL L x with
    | true => exact .inl rfl
    | false => exact .inr ((hm x).mpr ⟨hx, e⟩)
  generalize (sortU S).filter (fun x => !inL L x) = F0 at hF0
  refine hN _ _ ?_; clear hN N
  refine seq fun N hN => ?_
  walk_at "D"
  simp only [qDc]
  walk_at "D"
  intro q hq
  have hqp : q ≠ p := fun e => by rw [e, up_same] at hq; cases hq
  have hq0 : st q = none := by rw [up_ne hqp] at hq; exact hq
  have dc : ∀ (r pre : List (List Int)) (s : Sto), F0 = pre ++ r → s q = some (.dT (tabD (tabT pre))) → (∀ b, b ≠ q → s b = up st p (.lst ((F0.map TI).map .d)) b) →
      qCompD q (fun s => s p = some (.lst ((F0.map TI).map .d))) (qgN 6) qYes (qv 6) (qc (.d (.bool true))) [some (.d (LT L)), some (.d (LT S)), some (.r p), none, none, none, none]
        (fun s2 => N [some (.d (LT L)), some (.d (LT S)), some (.r p), some (.r q), none, none, none] s2) ((r.map TI).map DV.d) s := by
    intro r
    induction r with
    | nil =>
      intro pre s e hs fr
      rw [List.append_nil] at e
      have hsp : s p = some (.lst ((F0.map TI).map .d)) := by rw [fr p hqp.symm, up_same]
      refine ⟨hsp, hN _ _ ?_⟩; clear hN N
      have le0 : Le st s := le_of_two hp hq0 fun b h1 h2 => by rw [fr b h2, up_ne h1]
      refine seq fun N hN => ?_
      walk_at "D"
      refine hN _ _ ?_; clear hN N
      refine seq fun N hN => ?_
      rw [e] at hF0 hsp
      refine ⟨fun μ ε s => ∃ (F : List (List Int)) (at_ : Nat) (y5 : Option DV), ε = [some (.d (LT L)), some (.d (LT S)), some (.r p), some (.r q), some (I at_), y5, none] ∧ s p = some (.lst ((F.map TI).map .d)) ∧ s q = some (.dT (tabD (tabT F))) ∧ Le st s ∧ Fd L S n F ∧ at_ ≤ F.length ∧ (∀ i < at_, ∀ y ∈ downs (F.getD i []), inL L y = true ∨ y ∈ F) ∧ μ = 100 - at_,
        ⟨_, pre, 0, _, rfl, hsp, hs, le0, hF0, Nat.zero_le _, (fun i hi => absurd hi (Nat.not_lt_zero i)), rfl⟩, ?_⟩
      rintro μ ε s ⟨F, at_, y5, rfl, hsp, hsq, le, hF, hat, hdone, rfl⟩
      have lF := lenF F hF.nn hF.nd hF.cl hF.out
      walk_at "D"
      simp only [hsp]
      walk_at "D"
      by_cases ha : (at_ : Int) < (F.length : Int)
      · simp only [ha, decide_true, if_true]
        have hlt : at_ < F.length := by omega
        refine seq fun N2 hN2 => ?_
        walk_at "D"
        simp only [hsp]
        walk_at "D"
        have h60 : ¬ (60 : Int) < (L.length : Int) + (F.length : Int) := by omega
        simp only [h60, decide_false, Bool.false_eq_true, if_false]
        refine hN2 _ _ ?_; clear hN2 N2
        refine seq fun N2 hN2 => ?_
        walk_at "D"
        simp only [hsp]
        walk_at "D"
        rw [atI_map2 hlt]
        have hel : F.getD at_ [] = F[at_] := by rw [List.getD_eq_getElem?_getD, List.getElem?_eq_getElem hlt]; rfl
        have hin : F[at_] ∈ F := List.getElem_mem hlt
        have hnn := hF.nn _ hin
        have hcl := hF.cl _ hin
        generalize F[at_] = a at hel hin hnn hcl
        refine ⟨a, rfl, by rw [hnn.1]; omega, fun r s1 hr le1 hr1 => ?_⟩
        simp only [hr1]
        have hrp : r ≠ p := fun e => by rw [e, hsp] at hr; cases hr
        have hrq : r ≠ q := fun e => by rw [e, hsq] at hr; cases hr
        rw [List.map_map]
        have hdc : ∀ b ∈ downs a, NN n b ∧ Cl S b := fun b hb => by
          obtain ⟨m, j, h0, hj, rfl⟩ := mem_downs.mp hb
          exact ⟨nn_mv hnn h0, .mv hcl h0 hj⟩
        refine for_byT _ (fun i ε s' => (∃ y5, ε = [some (.d (LT L)), some (.d (LT S)), some (.r p), some (.r q), some (I at_), y5, none]) ∧ Le st s' ∧ s' r = some (.lst (List.map (DV.d ∘ TI) (downs a))) ∧ ∃ F2, s' p = some (.lst ((F2.map TI).map .d)) ∧ s' q = some (.dT (tabD (tabT F2))) ∧ Fd L S n F2 ∧ (∃ E, F2 = F ++ E) ∧ ∀ y ∈ (downs a).take i, inL L y = true ∨ y ∈ F2)
          ⟨⟨_, rfl⟩, le.trans le1, by rw [hr1, List.map_map], F, le1 _ _ hsp, le1 _ _ hsq, hF, ⟨[], (List.append_nil F).symm⟩, fun y hy => nomatch hy⟩ (fun _ _ s' h => h.2.2.1) ?_ ?_
        · rintro i b ε s' hi ⟨⟨y5, rfl⟩, le', hsr, F2, hsp', hsq', hF2, hE, hd2⟩ R hR
          obtain ⟨nnb, clb⟩ := hdc b (List.mem_of_getElem? hi)
          have htk : (downs a).take (i + 1) = (downs a).take i ++ [b] := by rw [List.take_succ, hi]; rfl
          have lF2 := lenF F2 hF2.nn hF2.nd hF2.cl hF2.out
          have stay : (inL L b = true ∨ b ∈ F2) → R [some (.d (LT L)), some (.d (LT S)), some (.r p), some (.r q), some (I at_), some (.d (TI b)), none] s' := fun hb => by
            refine hR _ _ ⟨⟨_, rfl⟩, le', hsr, F2, hsp', hsq', hF2, hE, fun y hy => ?_⟩
            rw [htk] at hy
            rcases List.mem_append.mp hy with hy | hy
            · exact hd2 y hy
            · rw [List.mem_singleton.mp hy]; exact hb
          walk_at "D"
          simp only [hsq', look_tabT]
          by_cases hm : b ∈ F2
          · simp only [if_pos hm, Option.isSome_some, Bool.not_true]
            walk_at "D"
            exact stay (.inr hm)
          · simp only [if_neg hm, Option.isSome_none, Bool.not_false]
            walk_at "D"
            refine ⟨L, b, rfl, by omega, ?_⟩
            cases hb : inL L b with
            | true =>
              walk_at "D"
              exact stay (.inl hb)
            | false =>
              walk_at "D"
              refine seq fun N3 hN3 => ?_
              walk_at "D"
              have hlt2 : (tabT F2).length < sizeLine := by rw [len_tabT, sizeL]; omega
              have e0 := dput_tab (tabT F2) b (Bo true) hlt2
              simp only [Bo_eq] at e0
              simp only [hsq', e0]
              refine hN3 _ _ ?_
              walk_at "D"
              have hpq : p ≠ q := hqp.symm
              simp only [up_ne hpq, hsp']
              refine ⟨⟨_, rfl⟩, _, rfl, by simp only [List.length_map, sizeL]; omega, ?_⟩
              refine hR _ _ ⟨⟨_, rfl⟩, le_upN hp (le_upN hq0 le'), by rw [up_ne hrp, up_ne hrq]; exact hsr, F2 ++ [b], ?_, ?_, ⟨fun x hx => ?_, ?_, fun x hx => ?_, fun x hx => ?_, fun x hx => ?_⟩, ?_, fun y hy => ?_⟩
              · rw [up_same, List.map_append, List.map_append]
                rfl
              · rw [up_ne hqp, up_same]
                exact congrArg (fun z => some (MO.dT (tabD z))) (put_new hm)
              · rcases List.mem_append.mp hx with hx | hx
                · exact hF2.nn x hx
                · rw [List.mem_singleton.mp hx]; exact nnb
              · refine List.nodup_append.mpr ⟨hF2.nd, List.nodup_cons.mpr ⟨List.not_mem_nil, List.nodup_nil⟩, fun x hx y hy e => hm ?_⟩
                rw [← List.mem_singleton.mp hy, ← e]
                exact hx
              · rcases List.mem_append.mp hx with hx | hx
                · exact hF2.cl x hx
                · rw [List.mem_singleton.mp hx]; exact clb
              · rcases List.mem_append.mp hx with hx | hx
                · exact hF2.out x hx
                · rw [List.mem_singleton.mp hx]; exact hb
              · exact (hF2.all x hx).elim .inl fun h => .inr (List.mem_append_left _ h)
              · obtain ⟨E, hE⟩ := hE
                exact ⟨E ++ [b], by rw [hE, List.append_assoc]⟩
              · rw [htk] at hy
                rcases List.mem_append.mp hy with hy | hy
                · exact (hd2 y hy).elim .inl fun h => .inr (List.mem_append_left _ h)
                · exact .inr (List.mem_append_right _ hy)
        · rintro ε s' ⟨⟨y5, rfl⟩, le', hsr, F2, hsp', hsq', hF2, ⟨E, hE⟩, hd2⟩
          refine hN2 _ _ ?_
          walk_at "D"
          rw [List.take_length] at hd2
          refine ⟨100 - (at_ + 1), by omega, F2, at_ + 1, _, rfl, hsp', hsq', le', hF2, by rw [hE, List.length_append]; omega, fun i hi y hy => ?_, rfl⟩
          by_cases e : i = at_
          · subst e
            have : F2.getD i [] = a := by rw [hE, getD_app hlt]; exact hel
            rw [this] at hy
            exact hd2 y hy
          · have hi2 : i < at_ := by omega
            have : F2.getD i [] = F.getD i [] := by rw [hE, getD_app (by omega)]
            rw [this] at hy
            exact (hdone i hi2 y hy).elim .inl fun h => .inr (by rw [hE]; exact List.mem_append_left _ h)
      · simp only [ha, decide_false, Bool.false_eq_true, if_false]
        have e1 : at_ = F.length := by omega
        subst e1
        refine hN _ _ ?_
        walk_at "D"
        simp only [hsp]
        refine ⟨by simp only [List.length_map, sizeL]; omega, ?_⟩
        rw [← List.map_append, ← List.map_append, datas_map]
        refine fg_le le (K F hF.nn hF.nd hF.cl hF.out hF.all fun x hx y hy => ?_)
        obtain ⟨i, hi, e⟩ := List.mem_iff_getElem.mp hx
        refine hdone i hi y ?_
        rw [List.getD_eq_getElem?_getD, List.getElem?_eq_getElem hi, Option.getD_some, e]
        exact hy
    | cons x r ih =>
      intro pre s e hs fr
      have hx : x ∉ pre := fun z => by
        have := hF0.nd
        rw [e] at this
        exact (List.nodup_append.mp this).2.2 _ z _ List.mem_cons_self rfl
      have hlp : (tabT pre).length < sizeLine := by
        rw [len_tabT, sizeL]
        have := lenF F0 hF0.nn hF0.nd hF0.cl hF0.out
        rw [e, List.length_append] at this
        omega
      have hsp : s p = some (.lst ((F0.map TI).map .d)) := by rw [fr p hqp.symm, up_same]
      refine ⟨hsp, ?_⟩
      walk_at "D"
      simp only [qYes, if_true, hs, dput_tab _ _ _ hlp]
      rw [put_new hx]
      exact ih (pre ++ [x]) _ (by rw [e, List.append_assoc]; rfl) up_same fun b hb => by rw [up_ne hb]; exact fr b hb
  exact dc F0 [] _ rfl up_same fun b hb => up_ne hb
theorem le_sum : ∀ {a : List Int}, (∀ x ∈ a, 0 ≤ x) → ∀ y ∈ a, y ≤ a.sum
  | x :: a, h, y, hy => by
    have h0 := h x List.mem_cons_self
    have hs := nn_sum (n := a.length) (a := a) ⟨rfl, fun z hz => h z (List.mem_cons_of_mem _ hz)⟩
    rw [List.sum_cons]
    rcases List.mem_cons.mp hy with rfl | hy
    · omega
    · have := le_sum (fun z hz => h z (List.mem_cons_of_mem _ hz)) y hy
      omega
theorem mon_of_sum {n : Nat} {w : Int} {a : List Int} (h : NN n a) (hs : a.sum ≤ w) : Mon n w a := ⟨h.1, fun x hx => ⟨h.2 x hx, Int.le_trans (le_sum h.2 x hx) hs⟩⟩
/-- what stands after some degrees -/
structure Hs (n : Nat) (S : List (List Int)) (ds : List Int) (L : List (List Int)) : Prop where
  nn : NNs n L
  nd : L.Nodup
  anti : ∀ a ∈ L, ∀ b ∈ L, divB a b = true → a = b
  sum : ∀ a ∈ L, a.sum ∈ ds
  cl : ∀ a ∈ L, Cl S a
  all : ∀ s ∈ S, s.sum ∈ ds → inL L s = true
  down : ∀ x ∈ L, ∀ y ∈ downs x, inL L y = true
theorem inL_app {L F : List (List Int)} {x : List Int} (h : inL L x = true ∨ x ∈ F) : inL (L ++ F) x = true := by
  rcases h with h | h
  · obtain ⟨g, hg, d⟩ := inL_iff.mp h
    exact inL_iff.mpr ⟨g, List.mem_append_left _ hg, d⟩
  · exact inL_iff.mpr ⟨x, List.mem_append_right _ h, divB_refl x⟩
def sp_stable_hull : SpD := fun xs st Q => ∃ (x : DV) (S : List (List Int)) (n : Nat), xs = [I n, x] ∧ sitems st x = some ((S.map TI).map .d) ∧ 1 ≤ n ∧ n ≤ 4 ∧ NNs n S ∧ (∀ a ∈ S, a.sum ≤ 5) ∧ S.length < 60 ∧ ∀ H, IsHull n S H → Q (.d (idl n H)) st
theorem len_stable_hull : ∀ xs st Q, sp_stable_hull xs st Q → xs.length = 2 := by rintro xs st Q ⟨x, S, n, rfl, _⟩; rfl
theorem sem_stable_hull : ∀ xs st Q, sp_stable_hull xs st Q → rd_stable_hull sp_degree_of sp_added_degree sp_made { nx := fun _ st' => Fg Q (.d .none) st', rt := Fg Q } (startD 6 xs) st := by
  rintro xs st Q ⟨x, S, n, rfl, hx, h1, h4, nS, sS, lS, K⟩
  have e0 : startD 6 [I n, x] = [some (I n), some x, none, none, none, none] := rfl
  rw [e0]
  unfold rd_stable_hull
  obtain ⟨inv, hsrc, hinv⟩ := src_of2 hx
  refine seq fun N hN => ?_
  walk_at "D"
  refine ⟨Nat.zero_le _, hN _ _ ?_⟩; clear hN N
  refine seq fun N hN => ?_
  walk_at "F"
  simp only [qSortIL, qiSeq, qLc]
  walk_at "F"
  simp only [seqSrc, titems, lsrc] at hsrc
  simp only [seqSrc, titems, lsrc, hsrc]
  refine ⟨by rw [List.length_map, List.length_map, sizeL]; omega, ?_⟩
  rw [List.map_map]
  refine comp_mapT _ (fun a : List Int => I a.sum) (hinv st hx) _ _ ?_ ?_
  · intro a ha Q2 h
    walk_at "D"
    exact ⟨a, rfl, h⟩
  rw [ints_dv0]
  walk_at "D"
  refine ⟨lS, ?_⟩
  rw [show (sortIU (S.map fun a => a.sum)).map (fun i => DV.d (PyData.int i)) = ((sortIU (S.map fun a => a.sum)).map PyData.int).map DV.d by rw [List.map_map]; rfl]
  walk_at "D"
  rw [List.map_map]
  have hasc := asc_sortIU (S.map fun a => a.sum)
  have hmem : ∀ d, d ∈ sortIU (S.map fun a => a.sum) ↔ ∃ s ∈ S, s.sum = d := fun d => by
    rw [mem_sortIU, List.mem_map]
  generalize sortIU (S.map fun a => a.sum) = ds at hasc hmem
  refine for_byT _ (fun i ε s => s = st ∧ ∃ L y3, ε = [some (I n), some x, some (.d (LT L)), y3, none, none] ∧ Hs n S (ds.take i) L) ⟨rfl, [], _, rfl, ⟨(fun x hx => nomatch hx), List.nodup_nil, (fun x hx => nomatch hx), (fun x hx => nomatch hx), (fun x hx => nomatch hx), (fun s hs h => nomatch h), (fun x hx => nomatch hx)⟩⟩ (fun _ _ _ _ => trivial) ?_ ?_
  · rintro i d ε s hi ⟨rfl, L, y3, rfl, hH⟩ R hR
    have hid := (List.getElem?_eq_some_iff.mp hi).1
    have hdi := (List.getElem?_eq_some_iff.mp hi).2
    have htk : ds.take (i + 1) = ds.take i ++ [d] := by rw [List.take_succ, hi]; rfl
    obtain ⟨s0, hs0, es0⟩ := (hmem d).mp (List.mem_of_getElem? hi)
    have hlow : ∀ e ∈ ds.take i, e < d := fun e he => by
      obtain ⟨j, hj, e2⟩ := List.mem_iff_getElem.mp he
      rw [List.length_take] at hj
      rw [List.getElem_take] at e2
      rw [← e2, ← hdi]
      exact List.pairwise_iff_getElem.mp hasc j i (by omega) hid (by omega)
    have hL : Lw n d L := ⟨hH.nn, hH.nd, fun a ha => hlow _ (hH.sum a ha), hH.anti⟩
    walk_at "F"
    simp only [qiSeq]
    walk_at "F"
    simp only [seqSrc, titems, lsrc, hsrc]
    refine ⟨by rw [List.length_map, List.length_map, sizeL]; omega, ?_⟩
    rw [List.map_map]
    refine comp_fmT _ (fun a : List Int => decide (a.sum = d)) (fun a => .d (TI a)) (hinv s hx) _ _ ?_ ?_
    · intro a ha Q1 Q2 h
      walk_at "D"
      refine ⟨a, rfl, ?_⟩
      walk_at "D"
      exact h
    rw [List.nil_append, show (S.filter fun a => decide (a.sum = d)).map (fun a => DV.d (TI a)) = ((S.filter fun a => decide (a.sum = d)).map TI).map .d by rw [List.map_map]; rfl]
    walk_at "D"
    have hfm : ∀ a, a ∈ S.filter (fun a => decide (a.sum = d)) ↔ a ∈ S ∧ a.sum = d := fun a => by rw [List.mem_filter, decide_eq_true_eq]
    refine ⟨L, S.filter fun a => decide (a.sum = d), n, d, rfl, h1, h4, by rw [← es0]; exact sS s0 hs0, hL, fun a ha => nS a ((hfm a).mp ha).1, fun a ha => ((hfm a).mp ha).2, Nat.le_trans (List.length_filter_le _ _) (by omega), fun F fnn fnd fcl fout fall fdown => ?_⟩
    have fsum : ∀ a ∈ F, a.sum = d := fun a ha => cl_sum (fun b hb => ((hfm b).mp hb).2) (fcl a ha)
    have hA := hL.app fnn fnd fsum fout
    refine hR _ _ ⟨rfl, L ++ F, _, rfl, ⟨hA.nn, hA.nd, hA.anti, fun a ha => ?_, fun a ha => ?_, fun s2 hs2 hd2 => ?_, fun x hx y hy => ?_⟩⟩
    · rw [htk]
      rcases List.mem_append.mp ha with ha | ha
      · exact List.mem_append_left _ (hH.sum a ha)
      · rw [fsum a ha]; exact List.mem_append_right _ (List.mem_singleton.mpr rfl)
    · rcases List.mem_append.mp ha with ha | ha
      · exact hH.cl a ha
      · exact (fcl a ha).mono fun b hb => ((hfm b).mp hb).1
    · rw [htk] at hd2
      rcases List.mem_append.mp hd2 with hd2 | hd2
      · exact inL_app (.inl (hH.all s2 hs2 hd2))
      · exact inL_app (fall s2 ((hfm s2).mpr ⟨hs2, List.mem_singleton.mp hd2⟩))
    · rcases List.mem_append.mp hx with hx | hx
      · exact inL_app (.inl (hH.down x hx y hy))
      · exact inL_app (fdown x hx y hy)
  · rintro ε s ⟨rfl, L, y3, rfl, hH⟩
    rw [List.take_length] at hH
    refine hN _ _ ?_
    walk_at "D"
    have hle : ∀ a ∈ L, a.sum ≤ 5 := fun a ha => by
      obtain ⟨s0, hs0, e⟩ := (hmem _).mp (hH.sum a ha)
      rw [← e]; exact sS s0 hs0
    have hlen : L.length ≤ 56 := (show Lw n 6 L from ⟨hH.nn, hH.nd, fun a ha => by have := hle a ha; omega, hH.anti⟩).few h1 h4 (by decide)
    have hmon : ∀ a ∈ L, Mon n 60 a := fun a ha => mon_of_sum (hH.nn a ha) (by have := hle a ha; omega)
    refine ⟨_, L, n, rfl, rfl, ⟨h1, by omega, by omega, hmon⟩, Nat.le_trans (min_len L) (by omega), ?_⟩
    refine fg_ret (K _ ?_)
    exact hull_of nS hH.cl fun x hx => cl_in nS hH.nn (fun s0 hs0 => hH.all s0 hs0 ((hmem _).mpr ⟨s0, hs0, rfl⟩)) (fun g hg m j h0 hj => hH.down g hg _ (mem_downs.mpr ⟨m, j, h0, hj, rfl⟩)) hx
end U
end
section
set_option Elab.async false
set_option linter.all false
set_option maxRecDepth 100000
set_option maxHeartbeats 1000000
namespace UC
open PySem L2 DL RD
def pairP (p : List Int × Int) : PyData := .tuple [TI p.1, .int p.2]
abbrev PT (P : Tab) : PyData := .tuple (P.map pairP)
def putK (S : List (Int × Int)) (a v : Int) : List (Int × Int) := if (S.any fun p => decide (p.1 = a)) = true then S.map fun p => if p.1 = a then (p.1, v) else p else S ++ [(a, v)]
theorem sum_le {n : Nat} {w : Int} {a : List Int} (h : Mon n w a) : a.sum ≤ n * w := by
  obtain ⟨hl, h⟩ := h
  induction a generalizing n with
  | nil => subst hl; simp
  | cons x a ih =>
    cases n with
    | zero => cases hl
    | succ n =>
      have h1 := (h x List.mem_cons_self).2
      have h2 := ih (n := n) (by simpa using hl) fun y hy => h y (List.mem_cons_of_mem _ hy)
      rw [List.sum_cons]
      have : ((n + 1 : Nat) : Int) * w = n * w + w := by rw [Int.natCast_add, Int.add_mul]; simp
      omega
end UC
end
section
set_option Elab.async false
set_option linter.all false
set_option maxRecDepth 100000
set_option maxHeartbeats 1000000
namespace UC
open PySem L2 DL RD
def bs (f : List Int → Int) : List Int → Int
  | [] => 0
  | x :: a => f a - bs (fun b => f (x :: b)) a
end UC
end
section
set_option Elab.async false
set_option linter.all false
set_option maxRecDepth 100000
set_option maxHeartbeats 1000000
namespace UC
open PySem L2 DL RD
theorem put_new {T : Tab} {a : List Int} {v : Int} (h : a ∉ keysZ T) : putZ T a v = T ++ [(a, v)] := by
  unfold putZ
  rw [if_neg]
  intro z
  exact h (any_key.mp z)
structure Shw (n : Nat) (d : PyData) : Prop where
  s : d.showable = true
  l : d.leavesShort 13 = true
  h : d.hasDict = false
  b : d.bulk ≤ n
theorem shw_all {n : Nat} : ∀ {xs : List PyData}, (∀ x ∈ xs, Shw n x) → PyData.showableAll xs = true ∧ PyData.leavesShortAll 13 xs = true ∧ PyData.hasDictAll xs = false ∧ PyData.bulkAll xs ≤ (n + 1) * xs.length
  | [], _ => ⟨by simp only [PyData.showableAll], by simp only [PyData.leavesShortAll], by simp only [PyData.hasDictAll], by simp only [PyData.bulkAll]; omega⟩
  | x :: xs, h => by
    obtain ⟨h1, h2, h3, h4⟩ := shw_all (xs := xs) fun y hy => h y (List.mem_cons_of_mem _ hy)
    obtain ⟨g1, g2, g3, g4⟩ := h x List.mem_cons_self
    refine ⟨by simp only [PyData.showableAll, g1, h1, Bool.and_self], by simp only [PyData.leavesShortAll, g2, h2, Bool.and_self], by simp only [PyData.hasDictAll, g3, h3, Bool.or_self], ?_⟩
    simp only [PyData.bulkAll, List.length_cons, Nat.mul_succ]
    omega
theorem shw_tup {n k : Nat} {xs : List PyData} (h : ∀ x ∈ xs, Shw n x) (hk : (n + 1) * xs.length ≤ k) : Shw k (.tuple xs) := by
  obtain ⟨h1, h2, h3, h4⟩ := shw_all h
  exact ⟨by simp only [PyData.showable, h1], by simp only [PyData.leavesShort, h2], by simp only [PyData.hasDict, h3], by simp only [PyData.bulk]; omega⟩
theorem shw_lst {n k : Nat} {xs : List PyData} (h : ∀ x ∈ xs, Shw n x) (hk : (n + 1) * xs.length ≤ k) : Shw k (.list xs) := by
  obtain ⟨h1, h2, h3, h4⟩ := shw_all h
  exact ⟨by simp only [PyData.showable, h1], by simp only [PyData.leavesShort, h2], by simp only [PyData.hasDict, h3], by simp only [PyData.bulk]; omega⟩
theorem Shw.mono {n m : Nat} {d : PyData} (h : Shw n d) (hm : n ≤ m) : Shw m d := ⟨h.s, h.l, h.h, Nat.le_trans h.b hm⟩
theorem Shw.ok {n : Nat} {d : PyData} (h : Shw n d) (hn : n ≤ 1000000) (hd : d.depth ≤ 16) : reprOk d :=
  ⟨h.s, h.h, hd, PyData.shown_fits_bulk (B := 13) (by decide) (by decide) h.l (Nat.le_trans h.b (by omega))⟩
end UC
end
section
set_option Elab.async false
set_option linter.all false
set_option maxRecDepth 100000
set_option maxHeartbeats 1000000
open PySem L2 DL RD UC
local macro_rules | `(tactic| walk_at "E") => `(tactic| (try simp only [qAsg, qRet, qDrop, qIfS, qTest, qAndT, qOrT, qNotT, qAndV, qOrV, qNotV, qIf, qOp, qUn, qChain, onB, qv, qc, qgN, qgT, qgCons, qgNil, qCons, qNil, qTup, qLst, qPar, qPar3, qAug, qCB, qCall, qLen, qTupleC, qListC, qMax2, qMin2, qIntC, qSum, qAny, qAll, qIsi, tyName, qAdd, qSub, qMul, qFdiv, qMod, qPow, qI2, qCmpI, qEq, qNe, qLt, qLe, qGt, qGe, qNeg, qIx, qDGet, qDIn, qDPut, qSl, qPart, qNoPart, qNext, qFor, qiSeq, qiRng1, qiRng2, qiZip, qiEnum, qLc, seqSrc, lsrc, titems, litems, sitems, fz, newL, List.getElem?_cons_zero, List.getElem?_cons_succ, List.set_cons_zero, List.set_cons_succ, if_true, if_false, Bool.false_eq_true, ite_true, ite_false, up_same, reduceIte, decide_true, decide_false, true_and, and_true]))
local macro_rules | `(tactic| walk_at "D") => `(tactic| (try simp only [qAsg, qRet, qDrop, qIfS, qTest, qAndT, qOrT, qNotT, qAndV, qOrV, qNotV, qIf, qOp, qUn, qChain, onB, qv, qc, qgN, qgT, qgCons, qgNil, qCons, qNil, qTup, qLst, qPar, qPar3, qAug, qCB, qCall, qLen, qTupleC, qListC, qMax2, qMin2, qIntC, qSum, qAny, qAll, qIsi, tyName, qAdd, qSub, qMul, qFdiv, qMod, qPow, qI2, qCmpI, qEq, qNe, qLt, qLe, qGt, qGe, qNeg, qIx, qDGet, qDIn, qDPut, qSl, qPart, qNoPart, qNext, qFor, qiSeq, qiRng1, qiRng2, qiZip, qiEnum, qLc, seqSrc, lsrc, titems, litems, sitems, fz, newL, List.getElem?_cons_zero, List.getElem?_cons_succ, List.set_cons_zero, List.set_cons_succ, if_true, if_false, Bool.false_eq_true, ite_true, ite_false, up_same, reduceIte, decide_true, decide_false, true_and, and_true, eqv_int, eqv_bool, eqv_TI, eqv_LI, eqv_TT, eqv_LT, eqv_nilL, eqv_nilT, shaped_TI, shaped_LI, shaped_TT, shaped_LT, shaped_int, shaped_bool, shaped_nilL, shaped_nilT, dints_map2, dbools_map2, datas_map, mkT_map, mkT_0, mkT_1, mkT_2, mkT_3, List.length_map, List.length_cons, List.length_nil, List.length_append, List.map_cons, List.map_nil, wipeD, Bool.not_true, Bool.not_false, eq_self, not_true_eq_false, not_false_eq_true, kitB_tt, kitB_ll, kitB_dd, kitB_bb, kitB_ib, kitB_ii, kitB_ss, kitB_tl, kitB_lt, Function.comp, datas, Option.map_some, List.cons_append, List.nil_append, CPow, le_size4, Int.toNat_natCast, rngD0, I_eq, Bo_eq, BS.qSortB, in_IT, in_IL, in_TT, in_TL, qNotN, qIsN, qSortD, qListRg, qDispT, keyX_TI, qGet, qiItems, qLockE, qLockS, qPop, qMaxDf, qLPut, qDNew, qListItems, qListDK, qLc2, qMax1, qMin1, qAppend, qExtend, tints_TI, dv_TI, Option.bind_some, qRetN, atI_0, atI_1, atI_2, mk_appT, mk_snocI, idl, rep_I, Option.map_none, eqv_idl, shaped_idl, Bool.and_self, Bool.true_and, Bool.and_true]))
local macro_rules | `(tactic| walk_at "F") => `(tactic| (try simp only [qAsg, qRet, qDrop, qIfS, qTest, qAndT, qOrT, qNotT, qAndV, qOrV, qNotV, qIf, qOp, qUn, qChain, onB, qv, qc, qgN, qgT, qgCons, qgNil, qCons, qNil, qTup, qLst, qPar, qPar3, qAug, qCB, qCall, qLen, qTupleC, qListC, qMax2, qMin2, qIntC, qSum, qAny, qAll, qIsi, tyName, qAdd, qSub, qMul, qFdiv, qMod, qPow, qI2, qCmpI, qEq, qNe, qLt, qLe, qGt, qGe, qNeg, qIx, qDGet, qDIn, qDPut, qSl, qPart, qNoPart, qNext, qFor, qiRng1, qiRng2, qiZip, qiEnum, qLc, fz, newL, List.getElem?_cons_zero, List.getElem?_cons_succ, List.set_cons_zero, List.set_cons_succ, if_true, if_false, Bool.false_eq_true, ite_true, ite_false, up_same, reduceIte, decide_true, decide_false, true_and, and_true, eqv_int, eqv_bool, eqv_TI, eqv_LI, eqv_TT, eqv_LT, eqv_nilL, eqv_nilT, shaped_TI, shaped_LI, shaped_TT, shaped_LT, shaped_int, shaped_bool, shaped_nilL, shaped_nilT, dints_map2, dbools_map2, datas_map, mkT_map, mkT_0, mkT_1, mkT_2, mkT_3, List.length_map, List.length_cons, List.length_nil, List.length_append, List.map_cons, List.map_nil, wipeD, Bool.not_true, Bool.not_false, eq_self, not_true_eq_false, not_false_eq_true, kitB_tt, kitB_ll, kitB_dd, kitB_bb, kitB_ib, kitB_ii, kitB_ss, kitB_tl, kitB_lt, Function.comp, datas, Option.map_some, List.cons_append, List.nil_append, CPow, le_size4, Int.toNat_natCast, rngD0, I_eq, Bo_eq, BS.qSortB, in_IT, in_IL, in_TT, in_TL, qNotN, qIsN, qSortD, qListRg, qDispT, keyX_TI, qGet, qiItems, qLockE, qLockS, qPop, qMaxDf, qLPut, qDNew, qListItems, qListDK, qLc2, qMax1, qMin1, qAppend, qExtend, tints_TI, dv_TI, Option.bind_some, qRetN, atI_0, atI_1, atI_2, mk_appT, mk_snocI, idl, rep_I, Option.map_none, eqv_idl, shaped_idl, Bool.and_self, Bool.true_and, Bool.and_true]))
namespace U
open PySem L2 DL RD UC
def sp_law_moved : SpD := fun xs st Q => ∃ (a : List Int) (m j : Nat), xs = [.d (TI a), I m, I j] ∧ a.length ≤ 1000 ∧ Q (.d (TI (mvL a m j))) st
theorem len_law_moved : ∀ xs st Q, sp_law_moved xs st Q → xs.length = 3 := by rintro xs st Q ⟨a, m, j, rfl, _⟩; rfl
theorem sem_law_moved : ∀ xs st Q, sp_law_moved xs st Q → rd_law_moved { nx := fun _ st' => Fg Q (.d .none) st', rt := Fg Q } (startD 4 xs) st := by
  rintro xs st Q ⟨a, m, j, rfl, hl, K⟩
  have e0 : startD 4 [.d (TI a), I m, I j] = [some (.d (TI a)), some (I m), some (I j), none] := rfl
  rw [e0]
  unfold rd_law_moved
  walk_at "D"
  refine ⟨by omega, by omega, by rw [List.length_range, sizeL]; omega, ?_⟩
  refine comp_mapT _ (fun (k : Nat) => I (gd a k - (if k = m then 1 else 0) + (if k = j then 1 else 0))) trivial _ _ ?_ ?_
  · intro k hk Q2 h
    have hk' := List.mem_range.mp hk
    walk_at "D"
    rw [atI_gd hk']
    walk_at "D"
    have d1 : decide ((k : Int) = (m : Int)) = decide (k = m) := by rw [Bool.eq_iff_iff, decide_eq_true_eq, decide_eq_true_eq]; omega
    have d2 : decide ((k : Int) = (j : Int)) = decide (k = j) := by rw [Bool.eq_iff_iff, decide_eq_true_eq, decide_eq_true_eq]; omega
    simp only [d1, d2, decide_eq_true_eq]
    by_cases c1 : k = m
    · by_cases c2 : k = j
      · rw [if_pos c1, if_pos c2] at h ⊢
        exact h
      · rw [if_pos c1, if_neg c2] at h ⊢
        exact h
    · by_cases c2 : k = j
      · rw [if_neg c1, if_pos c2] at h ⊢
        exact h
      · rw [if_neg c1, if_neg c2] at h ⊢
        exact h
  rw [ints_dv0]
  walk_at "D"
  exact fg_ret K
def resS : Option (Nat × Nat × Nat) → PyData
  | none => .none
  | some t => .tuple [.int t.1, .int t.2.1, .int t.2.2]
def resW : Option (Nat × Nat) → PyData
  | none => .none
  | some t => .tuple [.int t.1, .int t.2]
def sp_law_strong_place : SpD := fun xs st Q => ∃ (G : List (List Int)) (n : Nat), xs = [.d (TT G)] ∧ n ≤ 12 ∧ G.length ≤ 60 ∧ NNs n G ∧ ∀ r, FirstS G r → Q (.d (resS r)) st
theorem len_law_strong_place : ∀ xs st Q, sp_law_strong_place xs st Q → xs.length = 1 := by rintro xs st Q ⟨G, n, rfl, _⟩; rfl
theorem sem_law_strong_place : ∀ xs st Q, sp_law_strong_place xs st Q → rd_law_strong_place sp_law_moved sp_law_in { nx := fun _ st' => Fg Q (.d .none) st', rt := Fg Q } (startD 5 xs) st := by
  rintro xs st Q ⟨G, n, rfl, hn, hl, hG, K⟩
  have e0 : startD 5 [.d (TT G)] = [some (.d (TT G)), none, none, none, none] := rfl
  rw [e0]
  unfold rd_law_strong_place
  refine seq fun N hN => ?_
  walk_at "D"
  refine ⟨by omega, by omega, ?_⟩
  refine for_byT _ (fun i ε s => s = st ∧ (∃ x1 x2 x3 x4, ε = [some (.d (TT G)), x1, x2, x3, x4]) ∧ ∀ p < i, ∀ m j, ¬ Bad G p m j) ⟨rfl, ⟨_, _, _, _, rfl⟩, fun p hp => absurd hp (Nat.not_lt_zero p)⟩ (fun _ _ _ _ => trivial) ?_ ?_
  · rintro i p ε s hi ⟨rfl, ⟨x1, x2, x3, x4, rfl⟩, hd⟩ L hL
    obtain ⟨rfl, hp⟩ := range_some hi
    refine seq fun N2 hN2 => ?_
    walk_at "D"
    rw [atI_map2 hp]
    refine hN2 _ _ ?_; clear hN2 N2
    have hgd : G.getD p [] = G[p] := by rw [List.getD_eq_getElem?_getD, List.getElem?_eq_getElem hp]; rfl
    have ng := hG _ (List.getElem_mem hp)
    generalize G[p] = a at hgd ng
    have hal : a.length ≤ 12 := by rw [ng.1]; exact hn
    walk_at "D"
    refine ⟨by omega, by omega, ?_⟩
    refine for_byT _ (fun k ε s' => s' = s ∧ (∃ x3 x4, ε = [some (.d (TT G)), some (I p), some (.d (TI a)), x3, x4]) ∧ ∀ m < k, ∀ j, ¬ Bad G p m j) ⟨rfl, ⟨_, _, rfl⟩, fun m hm => absurd hm (Nat.not_lt_zero m)⟩ (fun _ _ _ _ => trivial) ?_ ?_
    · rintro k m ε s' hk ⟨rfl, ⟨x3, x4, rfl⟩, hdm⟩ L2 hL2
      obtain ⟨rfl, hm⟩ := range_some hk
      walk_at "D"
      refine ⟨by omega, by omega, ?_⟩
      refine for_byT _ (fun k2 ε s2 => s2 = s' ∧ (∃ x4, ε = [some (.d (TT G)), some (I p), some (.d (TI a)), some (I m), x4]) ∧ ∀ j < k2, ¬ Bad G p m j) ⟨rfl, ⟨_, rfl⟩, fun j hj => absurd hj (Nat.not_lt_zero j)⟩ (fun _ _ _ _ => trivial) ?_ ?_
      · rintro k2 j ε s2 hk2 ⟨rfl, ⟨x4, rfl⟩, hdj⟩ L3 hL3
        obtain ⟨rfl, hj⟩ := range_some hk2
        walk_at "D"
        rw [atI_gd hm]
        walk_at "D"
        have next : ¬ Bad G p m j → L3 [some (.d (TT G)), some (I p), some (.d (TI a)), some (I m), some (I j)] s2 := fun hb => by
          refine hL3 _ _ ⟨rfl, ⟨_, rfl⟩, fun j' hj' => ?_⟩
          by_cases e : j' = j
          · rw [e]; exact hb
          · exact hdj j' (by omega)
        by_cases c : 0 < gd a m
        · simp only [c, decide_true, if_true]
          walk_at "D"
          refine ⟨a, m, j, rfl, by omega, ?_⟩
          walk_at "D"
          refine ⟨G, mvL a m j, n, rfl, by omega, by omega, hG.len, (len_mv a m j).trans ng.1, ?_⟩
          cases hb : inL G (mvL a m j) with
          | true =>
            walk_at "D"
            exact next fun h => by
              have := h.2.2.2
              rw [hgd, hb] at this
              cases this
          | false =>
            walk_at "D"
            refine ⟨by rw [sizeL]; decide, fg_ret (K (some (p, m, j)) ⟨⟨hp, by rw [hgd]; exact c, hj, by rw [hgd]; exact hb⟩, fun p' m' j' hlt => ?_⟩)⟩
            unfold ltT at hlt
            simp only at hlt
            rcases hlt with h | ⟨rfl, h | ⟨rfl, h⟩⟩
            · exact hd p' h m' j'
            · exact hdm m' h j'
            · exact hdj j' h
        · simp only [c, decide_false, Bool.false_eq_true, if_false]
          exact next fun h => c (by have := h.2.1; rw [hgd] at this; exact this)
      · rintro ε s2 ⟨rfl, ⟨x4, rfl⟩, hdj⟩
        refine hL2 _ _ ⟨rfl, ⟨_, _, rfl⟩, fun m' hm' j => ?_⟩
        by_cases e : m' = m
        · rw [e]
          intro hb
          exact hdj j (by rw [List.length_range]; exact hb.2.2.1) hb
        · exact hdm m' (by omega) j
    · rintro ε s' ⟨rfl, ⟨x3, x4, rfl⟩, hdm⟩
      refine hL _ _ ⟨rfl, ⟨_, _, _, _, rfl⟩, fun p' hp' m j => ?_⟩
      by_cases e : p' = p
      · rw [e]
        intro hb
        have := lt_of_pos hb.2.1
        rw [hgd] at this
        exact hdm m (by rw [List.length_range]; exact this) j hb
      · exact hd p' (by omega) m j
  · rintro ε s ⟨rfl, ⟨x1, x2, x3, x4, rfl⟩, hd⟩
    refine hN _ _ ?_
    walk_at "D"
    refine fg_ret (K none fun p m j hb => hd p (by rw [List.length_range]; exact hb.1) m j hb)
theorem supp_asc (a : List Int) : (suppL a).Pairwise (· < ·) := by
  unfold suppL
  rw [zipIdx_range, List.filter_map, List.map_map]
  refine List.pairwise_map.mpr (List.Pairwise.imp (fun {x y} h => ?_) (List.Pairwise.sublist List.filter_sublist List.pairwise_lt_range))
  show ((x : Nat) : Int) < (y : Int)
  omega
def sp_strong_breach : SpD := fun xs st Q => ∃ (G : List (List Int)) (n : Nat), xs = [.d (idl n G)] ∧ n ≤ 12 ∧ G.length ≤ 60 ∧ NNs n G ∧ ∀ r, FirstS G r → Q (.d (resS r)) st
theorem len_strong_breach : ∀ xs st Q, sp_strong_breach xs st Q → xs.length = 1 := by rintro xs st Q ⟨G, n, rfl, _⟩; rfl
theorem sem_strong_breach : ∀ xs st Q, sp_strong_breach xs st Q → rd_strong_breach sp_support_of sp_stepped sp_contains { nx := fun _ st' => Fg Q (.d .none) st', rt := Fg Q } (startD 5 xs) st := by
  rintro xs st Q ⟨G, n, rfl, hn, hl, hG, K⟩
  have e0 : startD 5 [.d (idl n G)] = [some (.d (idl n G)), none, none, none, none] := rfl
  rw [e0]
  unfold rd_strong_breach
  refine seq fun N hN => ?_
  walk_at "D"
  rw [enumD_of]
  refine for_byT _ (fun i ε s => s = st ∧ (∃ x1 x2 x3 x4, ε = [some (.d (idl n G)), x1, x2, x3, x4]) ∧ ∀ p < i, ∀ m j, ¬ Bad G p m j) ⟨rfl, ⟨_, _, _, _, rfl⟩, fun p hp => absurd hp (Nat.not_lt_zero p)⟩ (fun _ _ _ _ => trivial) ?_ ?_
  · rintro i z ε s hi ⟨rfl, ⟨x1, x2, x3, x4, rfl⟩, hd⟩ L hL
    rw [List.getElem?_zipIdx] at hi
    obtain ⟨a, ha, rfl⟩ := Option.map_eq_some_iff.mp hi
    have hp := (List.getElem?_eq_some_iff.mp ha).1
    have hgd : G.getD i [] = a := by rw [List.getD_eq_getElem?_getD, ha]; rfl
    have ng := hG _ (List.mem_of_getElem? ha)
    have hal : a.length ≤ 12 := by rw [ng.1]; exact hn
    have hasc := supp_asc a
    simp only [Nat.zero_add]
    walk_at "D"
    refine ⟨a, rfl, by omega, ?_⟩
    walk_at "D"
    rw [List.map_map]
    refine for_byT _ (fun k ε s' => s' = s ∧ (∃ x3 x4, ε = [some (.d (idl n G)), some (I i), some (.d (TI a)), x3, x4]) ∧ ∀ m : Nat, (m : Int) ∈ (suppL a).take k → ∀ j, ¬ Bad G i m j) ⟨rfl, ⟨_, _, rfl⟩, fun m hm => nomatch hm⟩ (fun _ _ _ _ => trivial) ?_ ?_
    · rintro k mI ε s' hk ⟨rfl, ⟨x3, x4, rfl⟩, hdm⟩ L2 hL2
      obtain ⟨m, hmn, h0, rfl⟩ := (mem_supp rfl).mp (List.mem_of_getElem? hk)
      have htk : (suppL a).take (k + 1) = (suppL a).take k ++ [(m : Int)] := by rw [List.take_succ, hk]; rfl
      walk_at "D"
      refine ⟨by omega, by omega, ?_⟩
      refine for_byT _ (fun k2 ε s2 => s2 = s' ∧ (∃ x4, ε = [some (.d (idl n G)), some (I i), some (.d (TI a)), some (I m), x4]) ∧ ∀ j < k2, ¬ Bad G i m j) ⟨rfl, ⟨_, rfl⟩, fun j hj => absurd hj (Nat.not_lt_zero j)⟩ (fun _ _ _ _ => trivial) ?_ ?_
      · rintro k2 j ε s2 hk2 ⟨rfl, ⟨x4, rfl⟩, hdj⟩ L3 hL3
        obtain ⟨rfl, hj⟩ := range_some hk2
        walk_at "D"
        refine ⟨a, m, j, rfl, by omega, hmn, hj, ?_⟩
        walk_at "D"
        refine ⟨G, .int n, mvL a m j, rfl, by omega, ?_⟩
        cases hb : inL G (mvL a m j) with
        | true =>
          walk_at "D"
          refine hL3 _ _ ⟨rfl, ⟨_, rfl⟩, fun j' hj' => ?_⟩
          by_cases e : j' = j
          · rw [e]
            intro h
            have := h.2.2.2
            rw [hgd, hb] at this
            cases this
          · exact hdj j' (by omega)
        | false =>
          walk_at "D"
          refine ⟨by rw [sizeL]; decide, fg_ret (K (some (i, m, j)) ⟨⟨hp, by rw [hgd]; exact h0, hj, by rw [hgd]; exact hb⟩, fun p' m' j' hlt => ?_⟩)⟩
          unfold ltT at hlt
          simp only at hlt
          rcases hlt with h | ⟨rfl, h | ⟨rfl, h⟩⟩
          · exact hd p' h m' j'
          · intro hb2
            have hm' : ((m' : Nat) : Int) ∈ suppL a := (mem_supp rfl).mpr ⟨m', by rw [← hgd]; exact lt_of_pos hb2.2.1, by rw [← hgd]; exact hb2.2.1, rfl⟩
            obtain ⟨k3, hk3, e3⟩ := List.mem_iff_getElem.mp hm'
            have hkl := (List.getElem?_eq_some_iff.mp hk).1
            have hke := (List.getElem?_eq_some_iff.mp hk).2
            have hlt3 : k3 < k := by
              rcases Nat.lt_or_ge k3 k with z | z
              · exact z
              · exfalso
                rcases Nat.lt_or_eq_of_le z with z | z
                · have := List.pairwise_iff_getElem.mp hasc k k3 hkl hk3 z
                  rw [hke, e3] at this
                  omega
                · subst z
                  rw [hke] at e3
                  omega
            refine hdm m' ?_ j' hb2
            rw [← e3]
            exact List.mem_iff_getElem.mpr ⟨k3, by rw [List.length_take]; omega, List.getElem_take ..⟩
          · exact hdj j' h
      · rintro ε s2 ⟨rfl, ⟨x4, rfl⟩, hdj⟩
        refine hL2 _ _ ⟨rfl, ⟨_, _, rfl⟩, fun m' hm' j => ?_⟩
        rw [htk] at hm'
        rcases List.mem_append.mp hm' with hm' | hm'
        · exact hdm m' hm' j
        · have e := List.mem_singleton.mp hm'
          have e : m' = m := by omega
          rw [e]
          intro hb
          exact hdj j (by rw [List.length_range]; exact hb.2.2.1) hb
    · rintro ε s' ⟨rfl, ⟨x3, x4, rfl⟩, hdm⟩
      rw [List.take_length] at hdm
      refine hL _ _ ⟨rfl, ⟨_, _, _, _, rfl⟩, fun p' hp' m j => ?_⟩
      by_cases e : p' = i
      · rw [e]
        intro hb
        exact hdm m ((mem_supp rfl).mpr ⟨m, by rw [← hgd]; exact lt_of_pos hb.2.1, by rw [← hgd]; exact hb.2.1, rfl⟩) j hb
      · exact hd p' (by omega) m j
  · rintro ε s ⟨rfl, ⟨x1, x2, x3, x4, rfl⟩, hd⟩
    refine hN _ _ ?_
    walk_at "D"
    refine fg_ret (K none fun p m j hb => hd p (by rw [List.length_zipIdx]; exact hb.1) m j hb)
theorem cut_last : ∀ (xs : List Int), cutD xs (some (-1)) none = xs.drop (xs.length - 1) := fun xs => by
  unfold cutD
  rw [HT.sIx_none]
  have e1 : HT.sIx xs.length 0 (some (-1)) = xs.length - 1 := by
    show (if (-1 : Int) < 0 then ((-1 : Int) + (xs.length : Int)).toNat else min (-1 : Int).toNat xs.length) = _
    rw [if_pos (by decide)]
    omega
  rw [e1]
  exact List.take_of_length_le (by rw [List.length_drop]; exact Nat.le_refl _)
theorem drop_last {xs : List Int} (h : xs.Pairwise (· < ·)) : (xs = [] ∧ xs.drop (xs.length - 1) = []) ∨ ∃ m ∈ xs, xs.drop (xs.length - 1) = [m] ∧ ∀ y ∈ xs, y ≤ m := by
  rcases List.eq_nil_or_concat xs with e | ⟨l, m, e⟩
  · exact .inl ⟨e, by rw [e]; rfl⟩
  · rw [List.concat_eq_append] at e
    subst e
    refine .inr ⟨m, List.mem_append_right _ (List.mem_singleton.mpr rfl), ?_, fun y hy => ?_⟩
    · rw [List.length_append]
      exact List.drop_left ..
    · rcases List.mem_append.mp hy with hy | hy
      · exact Int.le_of_lt ((List.pairwise_append.mp h).2.2 y hy m (List.mem_singleton.mpr rfl))
      · rw [List.mem_singleton.mp hy]; exact Int.le_refl _
theorem last_uniq {a : List Int} {m m' : Nat} (h : Last a m) (h' : Last a m') : m = m' := by
  rcases Nat.lt_trichotomy m m' with z | z | z
  · exact absurd h'.1 (h.2 _ z)
  · exact z
  · exact absurd h.1 (h'.2 _ z)
def sp_stable_breach : SpD := fun xs st Q => ∃ (G : List (List Int)) (n : Nat), xs = [.d (idl n G)] ∧ n ≤ 12 ∧ G.length ≤ 60 ∧ NNs n G ∧ ∀ r, FirstW G r → Q (.d (resW r)) st
theorem len_stable_breach : ∀ xs st Q, sp_stable_breach xs st Q → xs.length = 1 := by rintro xs st Q ⟨G, n, rfl, _⟩; rfl
theorem sem_stable_breach : ∀ xs st Q, sp_stable_breach xs st Q → rd_stable_breach sp_support_of sp_stepped sp_contains { nx := fun _ st' => Fg Q (.d .none) st', rt := Fg Q } (startD 5 xs) st := by
  rintro xs st Q ⟨G, n, rfl, hn, hl, hG, K⟩
  have e0 : startD 5 [.d (idl n G)] = [some (.d (idl n G)), none, none, none, none] := rfl
  rw [e0]
  unfold rd_stable_breach
  refine seq fun N hN => ?_
  walk_at "D"
  rw [enumD_of]
  refine for_byT _ (fun i ε s => s = st ∧ (∃ x1 x2 x3 x4, ε = [some (.d (idl n G)), x1, x2, x3, x4]) ∧ ∀ p < i, ∀ j, ¬ BadW G p j) ⟨rfl, ⟨_, _, _, _, rfl⟩, fun p hp => absurd hp (Nat.not_lt_zero p)⟩ (fun _ _ _ _ => trivial) ?_ ?_
  · rintro i z ε s hi ⟨rfl, ⟨x1, x2, x3, x4, rfl⟩, hd⟩ L hL
    rw [List.getElem?_zipIdx] at hi
    obtain ⟨a, ha, rfl⟩ := Option.map_eq_some_iff.mp hi
    have hp := (List.getElem?_eq_some_iff.mp ha).1
    have hgd : G.getD i [] = a := by rw [List.getD_eq_getElem?_getD, ha]; rfl
    have ng := hG _ (List.mem_of_getElem? ha)
    have hal : a.length ≤ 12 := by rw [ng.1]; exact hn
    have hasc := supp_asc a
    simp only [Nat.zero_add]
    walk_at "D"
    refine ⟨a, rfl, by omega, ?_⟩
    walk_at "D"
    rw [cutD_map, cutD_map, cut_last]
    walk_at "D"
    have hT := drop_last hasc
    -- the last variable, if there is one
    have hlast : ∀ m : Nat, (m : Int) ∈ (suppL a).drop ((suppL a).length - 1) ↔ Last a m := fun m => by
      rcases hT with ⟨e1, e2⟩ | ⟨x, hx, e2, hmax⟩
      · rw [e2]
        refine ⟨(fun h => nomatch h), fun h => ?_⟩
        have : (m : Int) ∈ suppL a := (mem_supp rfl).mpr ⟨m, lt_of_pos h.1, h.1, rfl⟩
        rw [e1] at this
        cases this
      · rw [e2, List.mem_singleton]
        obtain ⟨x', hx', h0', rfl⟩ := (mem_supp rfl).mp hx
        constructor
        · intro e
          have e : m = x' := by omega
          subst e
          refine ⟨h0', fun k hk h => ?_⟩
          have := hmax _ ((mem_supp rfl).mpr ⟨k, lt_of_pos h, h, rfl⟩)
          omega
        · intro h
          have h1 := hmax _ ((mem_supp rfl).mpr ⟨m, lt_of_pos h.1, h.1, rfl⟩)
          rcases Nat.lt_or_ge m x' with z | z
          · exact absurd h0' (h.2 x' z)
          · omega
    have hnat : ∀ x ∈ (suppL a).drop ((suppL a).length - 1), ∃ m : Nat, x = (m : Int) := fun x hx => by
      obtain ⟨m, _, _, e⟩ := (mem_supp rfl).mp (List.mem_of_mem_drop hx)
      exact ⟨m, e⟩
    generalize (suppL a).drop ((suppL a).length - 1) = T at hlast hnat
    rw [List.map_map]
    refine for_byT _ (fun k ε s' => s' = s ∧ (∃ x3 x4, ε = [some (.d (idl n G)), some (I i), some (.d (TI a)), x3, x4]) ∧ ∀ m : Nat, (m : Int) ∈ T.take k → ∀ j, ¬ Bad G i m j) ⟨rfl, ⟨_, _, rfl⟩, fun m hm => nomatch hm⟩ (fun _ _ _ _ => trivial) ?_ ?_
    · rintro k mI ε s' hk ⟨rfl, ⟨x3, x4, rfl⟩, hdm⟩ L2 hL2
      obtain ⟨m, rfl⟩ := hnat mI (List.mem_of_getElem? hk)
      have hm := (hlast m).mp (List.mem_of_getElem? hk)
      have hmn := lt_of_pos hm.1
      have h0 := hm.1
      have htk : T.take (k + 1) = T.take k ++ [(m : Int)] := by rw [List.take_succ, hk]; rfl
      walk_at "D"
      refine ⟨by omega, by omega, ?_⟩
      refine for_byT _ (fun k2 ε s2 => s2 = s' ∧ (∃ x4, ε = [some (.d (idl n G)), some (I i), some (.d (TI a)), some (I m), x4]) ∧ ∀ j < k2, ¬ Bad G i m j) ⟨rfl, ⟨_, rfl⟩, fun j hj => absurd hj (Nat.not_lt_zero j)⟩ (fun _ _ _ _ => trivial) ?_ ?_
      · rintro k2 j ε s2 hk2 ⟨rfl, ⟨x4, rfl⟩, hdj⟩ L3 hL3
        obtain ⟨rfl, hj⟩ := range_some hk2
        walk_at "D"
        refine ⟨a, m, j, rfl, by omega, hmn, hj, ?_⟩
        walk_at "D"
        refine ⟨G, .int n, mvL a m j, rfl, by omega, ?_⟩
        cases hb : inL G (mvL a m j) with
        | true =>
          walk_at "D"
          refine hL3 _ _ ⟨rfl, ⟨_, rfl⟩, fun j' hj' => ?_⟩
          by_cases e : j' = j
          · rw [e]
            intro h
            have := h.2.2.2
            rw [hgd, hb] at this
            cases this
          · exact hdj j' (by omega)
        | false =>
          walk_at "D"
          refine ⟨by rw [sizeL]; decide, fg_ret (K (some (i, j)) ⟨⟨m, by rw [hgd]; exact hm, hp, by rw [hgd]; exact h0, hj, by rw [hgd]; exact hb⟩, fun p' j' hlt => ?_⟩)⟩
          simp only at hlt
          rcases hlt with h | ⟨rfl, h⟩
          · exact hd p' h j'
          · rintro ⟨m', hm', hb2⟩
            rw [hgd] at hm'
            have e : m' = m := last_uniq hm' hm
            subst e
            exact hdj j' h hb2
      · rintro ε s2 ⟨rfl, ⟨x4, rfl⟩, hdj⟩
        refine hL2 _ _ ⟨rfl, ⟨_, _, rfl⟩, fun m' hm' j => ?_⟩
        rw [htk] at hm'
        rcases List.mem_append.mp hm' with hm' | hm'
        · exact hdm m' hm' j
        · have e := List.mem_singleton.mp hm'
          have e : m' = m := by omega
          rw [e]
          intro hb
          exact hdj j (by rw [List.length_range]; exact hb.2.2.1) hb
    · rintro ε s' ⟨rfl, ⟨x3, x4, rfl⟩, hdm⟩
      rw [List.take_length] at hdm
      refine hL _ _ ⟨rfl, ⟨_, _, _, _, rfl⟩, fun p' hp' j => ?_⟩
      by_cases e : p' = i
      · rw [e]
        rintro ⟨m, hm, hb⟩
        rw [hgd] at hm
        exact hdm m ((hlast m).mpr hm) j hb
      · exact hd p' (by omega) j
  · rintro ε s ⟨rfl, ⟨x1, x2, x3, x4, rfl⟩, hd⟩
    refine hN _ _ ?_
    walk_at "D"
    refine fg_ret (K none fun p j hb => hd p (by rw [List.length_zipIdx]; obtain ⟨m, _, h⟩ := hb; exact h.1) j hb)
theorem mx_spec : ∀ (ns : List Int) (n : Int), ns.foldl max n ∈ n :: ns ∧ ∀ x ∈ n :: ns, x ≤ ns.foldl max n
  | [], n => ⟨List.mem_singleton.mpr rfl, fun x hx => by rw [List.mem_singleton.mp hx]; exact Int.le_refl _⟩
  | k :: ns, n => by
    obtain ⟨h1, h2⟩ := mx_spec ns (max n k)
    rw [List.foldl_cons]
    refine ⟨?_, fun x hx => ?_⟩
    · rcases List.mem_cons.mp h1 with h | h
      · rw [h]
        rcases Int.le_total n k with z | z
        · rw [Int.max_eq_right z]; exact List.mem_cons_of_mem _ List.mem_cons_self
        · rw [Int.max_eq_left z]; exact List.mem_cons_self
      · exact List.mem_cons_of_mem _ (List.mem_cons_of_mem _ h)
    · have h3 := h2 _ List.mem_cons_self
      rcases List.mem_cons.mp hx with rfl | hx
      · omega
      · rcases List.mem_cons.mp hx with rfl | hx
        · omega
        · exact h2 x (List.mem_cons_of_mem _ hx)
def sp_law_stable_place : SpD := fun xs st Q => ∃ (G : List (List Int)) (n : Nat), xs = [.d (TT G)] ∧ n ≤ 12 ∧ G.length ≤ 60 ∧ NNs n G ∧ ∀ r, FirstW G r → Q (.d (resW r)) st
theorem len_law_stable_place : ∀ xs st Q, sp_law_stable_place xs st Q → xs.length = 1 := by rintro xs st Q ⟨G, n, rfl, _⟩; rfl
theorem sem_law_stable_place : ∀ xs st Q, sp_law_stable_place xs st Q → rd_law_stable_place sp_law_moved sp_law_in { nx := fun _ st' => Fg Q (.d .none) st', rt := Fg Q } (startD 6 xs) st := by
  rintro xs st Q ⟨G, n, rfl, hn, hl, hG, K⟩
  have e0 : startD 6 [.d (TT G)] = [some (.d (TT G)), none, none, none, none, none] := rfl
  rw [e0]
  unfold rd_law_stable_place
  refine seq fun N hN => ?_
  walk_at "D"
  refine ⟨by omega, by omega, ?_⟩
  refine for_byT _ (fun i ε s => s = st ∧ (∃ x1 x2 x3 x4, ε = [some (.d (TT G)), x1, x2, x3, x4, none]) ∧ ∀ p < i, ∀ j, ¬ BadW G p j) ⟨rfl, ⟨_, _, _, _, rfl⟩, fun p hp => absurd hp (Nat.not_lt_zero p)⟩ (fun _ _ _ _ => trivial) ?_ ?_
  · rintro i p ε s hi ⟨rfl, ⟨x1, x2, x3, x4, rfl⟩, hd⟩ L hL
    obtain ⟨rfl, hp⟩ := range_some hi
    refine seq fun N2 hN2 => ?_
    walk_at "D"
    rw [atI_map2 hp]
    refine hN2 _ _ ?_; clear hN2 N2
    have hgd : G.getD p [] = G[p] := by rw [List.getD_eq_getElem?_getD, List.getElem?_eq_getElem hp]; rfl
    have ng := hG _ (List.getElem_mem hp)
    generalize G[p] = a at hgd ng
    have hal : a.length ≤ 12 := by rw [ng.1]; exact hn
    refine seq fun N2 hN2 => ?_
    walk_at "D"
    refine ⟨by omega, by omega, by rw [List.length_range, sizeL]; omega, ?_⟩
    refine comp_fmT _ (fun (k : Nat) => decide (0 < gd a k)) (fun k => I (k : Int)) trivial _ _ ?_ ?_
    · intro k hk Q1 Q2 h
      walk_at "D"
      rw [atI_gd (List.mem_range.mp hk)]
      walk_at "D"
      exact h
    rw [ints_dv0]
    walk_at "D"
    refine ⟨by rw [sizeL]; decide, by
      have := List.length_filter_le (fun (k : Nat) => decide (0 < gd a k)) (List.range a.length)
      rw [List.length_range] at this
      rw [sizeL]
      omega, ?_⟩
    have hV : ∀ k : Nat, (k : Int) ∈ ((List.range a.length).filter fun (k : Nat) => decide (0 < gd a k)).map (fun (k : Nat) => (k : Int)) ↔ 0 < gd a k := fun k => by
      rw [List.mem_map]
      constructor
      · rintro ⟨k', hk', e⟩
        have e : k' = k := by omega
        rw [← e]
        exact of_decide_eq_true (List.mem_filter.mp hk').2
      · intro h
        exact ⟨k, List.mem_filter.mpr ⟨List.mem_range.mpr (lt_of_pos h), decide_eq_true h⟩, rfl⟩
    have hV0 : ∀ x ∈ ((List.range a.length).filter fun (k : Nat) => decide (0 < gd a k)).map (fun (k : Nat) => (k : Int)), ∃ k : Nat, x = (k : Int) := fun x hx => by
      obtain ⟨k, _, e⟩ := List.mem_map.mp hx
      exact ⟨k, e.symm⟩
    generalize ((List.range a.length).filter fun (k : Nat) => decide (0 < gd a k)).map (fun (k : Nat) => (k : Int)) = V at hV hV0
    rw [show List.map DV.d (List.map PyData.int V) ++ [DV.d (PyData.int (-1))] = ((V ++ [-1]).map PyData.int).map DV.d by rw [List.map_append, List.map_append]; rfl]
    walk_at "D"
    obtain ⟨y, r, e1⟩ : ∃ y r, V ++ [-1] = y :: r := by
      cases V with
      | nil => exact ⟨_, _, rfl⟩
      | cons v V => exact ⟨_, _, rfl⟩
    have hmx := mx_spec r y
    rw [← e1] at hmx
    simp only [e1]
    obtain ⟨hin, hge⟩ := hmx
    generalize r.foldl max y = M at hin hge
    refine hN2 _ _ ?_; clear hN2 N2
    -- the bound of the loop
    have hM : (M = -1 ∧ ∀ m, ¬ Last a m) ∨ ∃ m : Nat, M = (m : Int) ∧ Last a m := by
      rcases List.mem_append.mp hin with h | h
      · obtain ⟨m, rfl⟩ := hV0 M h
        refine .inr ⟨m, rfl, (hV m).mp h, fun k hk h2 => ?_⟩
        have := hge _ (List.mem_append_left _ ((hV k).mpr h2))
        omega
      · have e := List.mem_singleton.mp h
        refine .inl ⟨e, fun m hm => ?_⟩
        have := hge _ (List.mem_append_left _ ((hV m).mpr hm.1))
        omega
    have hM2 : -1 ≤ M ∧ M < 100 := by
      rcases hM with ⟨e, _⟩ | ⟨m, e, h⟩
      · omega
      · have := lt_of_pos h.1
        omega
    walk_at "D"
    refine ⟨by omega, by omega, ?_⟩
    refine for_byT _ (fun k2 ε s2 => s2 = s ∧ (∃ x4, ε = [some (.d (TT G)), some (I p), some (.d (TI a)), some (I M), x4, none]) ∧ ∀ j < k2, ¬ BadW G p j) ⟨rfl, ⟨_, rfl⟩, fun j hj => absurd hj (Nat.not_lt_zero j)⟩ (fun _ _ _ _ => trivial) ?_ ?_
    · rintro k2 j ε s2 hk2 ⟨rfl, ⟨x4, rfl⟩, hdj⟩ L3 hL3
      obtain ⟨rfl, hj⟩ := range_some hk2
      obtain ⟨m, rfl, hm⟩ : ∃ m : Nat, M = (m : Int) ∧ Last a m := by
        rcases hM with ⟨e, _⟩ | h
        · omega
        · exact h
      have hjm : j < m := by omega
      walk_at "D"
      refine ⟨a, m, j, rfl, by omega, ?_⟩
      walk_at "D"
      refine ⟨G, mvL a m j, n, rfl, by omega, by omega, hG.len, (len_mv a m j).trans ng.1, ?_⟩
      cases hb : inL G (mvL a m j) with
      | true =>
        walk_at "D"
        refine hL3 _ _ ⟨rfl, ⟨_, rfl⟩, fun j' hj' => ?_⟩
        by_cases e : j' = j
        · rw [e]
          rintro ⟨m', hm', h⟩
          rw [hgd] at hm'
          have e2 := last_uniq hm' hm
          subst e2
          have := h.2.2.2
          rw [hgd, hb] at this
          cases this
        · exact hdj j' (by omega)
      | false =>
        walk_at "D"
        refine ⟨by rw [sizeL]; decide, fg_ret (K (some (p, j)) ⟨⟨m, by rw [hgd]; exact hm, hp, by rw [hgd]; exact hm.1, hjm, by rw [hgd]; exact hb⟩, fun p' j' hlt => ?_⟩)⟩
        simp only at hlt
        rcases hlt with h | ⟨rfl, h⟩
        · exact hd p' h j'
        · exact hdj j' h
    · rintro ε s2 ⟨rfl, ⟨x4, rfl⟩, hdj⟩
      rw [List.length_range] at hdj
      refine hL _ _ ⟨rfl, ⟨_, _, _, _, rfl⟩, fun p' hp' j => ?_⟩
      by_cases e : p' = p
      · rw [e]
        intro hb
        obtain ⟨m, hm, hb2⟩ := id hb
        rw [hgd] at hm
        have hjm := hb2.2.2.1
        refine hdj j ?_ hb
        rcases hM with ⟨_, e⟩ | ⟨m2, e, h⟩
        · exact absurd hm (e m)
        · have := last_uniq hm h
          omega
      · exact hd p' (by omega) j
  · rintro ε s ⟨rfl, ⟨x1, x2, x3, x4, rfl⟩, hd⟩
    refine hN _ _ ?_
    walk_at "D"
    refine fg_ret (K none fun p j hb => hd p (by rw [List.length_range]; obtain ⟨m, _, h⟩ := hb; exact h.1) j hb)
def HullB (n : Nat) (S : List (List Int)) (H : List (List Int)) : Prop := IsHull n S H ∧ minL H = H ∧ (∀ x ∈ H, Cl S x)
theorem in_TR (neg : Bool) (a : List Int) (l : List (List Int)) {q : Addr} {st : Sto} (Q : DV → Sto → Prop) (h : st q = some (.lst ((l.map TI).map .d))) : qIn neg (.d (TI a)) (.r q) st Q = Q (.d (.bool (if neg then !decide (a ∈ l) else decide (a ∈ l)))) st := by
  refine Eq.trans ?_ (in_TL neg a l st Q)
  unfold qIn
  have e : fz st (.r q) = some (LT l) := by
    simp only [fz, h, datas_map]
    rfl
  rw [e]
  rfl
/-- what the law's own hull has found -/
structure HF (n : Nat) (S F : List (List Int)) : Prop where
  cl : ∀ y ∈ F, Cl S y
  app : ∃ E, F = S ++ E ∧ E.Nodup
theorem mv_nodup {a : List Int} {m : Nat} (hm : m ≤ a.length) : ((List.range m).map fun j => mvL a m j).Nodup := by
  refine List.pairwise_map.mpr (List.Pairwise.imp_of_mem (fun {x y} hx hy h e => ?_) List.pairwise_lt_range)
  have hx' := List.mem_range.mp hx
  have hy' := List.mem_range.mp hy
  have h1 := gd_mv (a := a) (m := m) (j := x) (k := x) (by omega)
  have h2 := gd_mv (a := a) (m := m) (j := y) (k := x) (by omega)
  rw [if_pos rfl] at h1
  rw [if_neg (show ¬ x = y by omega)] at h2
  rw [e] at h1
  omega
def sp_law_hull : SpD := fun xs st Q => ∃ (x : DV) (S : List (List Int)) (n : Nat), xs = [x] ∧ sitems st x = some ((S.map TI).map .d) ∧ 1 ≤ n ∧ n ≤ 4 ∧ NNs n S ∧ (∀ a ∈ S, a.sum ≤ 4) ∧ S.length ≤ 10 ∧ ∀ H, HullB n S H → Q (.d (TT H)) st
theorem len_law_hull : ∀ xs st Q, sp_law_hull xs st Q → xs.length = 1 := by rintro xs st Q ⟨x, S, n, rfl, _⟩; rfl
theorem sem_law_hull : ∀ xs st Q, sp_law_hull xs st Q → rd_law_hull sp_law_moved sp_law_least { nx := fun _ st' => Fg Q (.d .none) st', rt := Fg Q } (startD 7 xs) st := by
  rintro xs st Q ⟨x, S, n, rfl, hx, h1, h4, nS, sS, lS, K⟩
  have e0 : startD 7 [x] = [some x, none, none, none, none, none, none] := rfl
  rw [e0]
  unfold rd_law_hull
  refine seq fun N hN => ?_
  walk_at "F"
  simp only [hx]
  refine fun p hp => hN _ _ ?_; clear hN N
  have lenH : ∀ F, HF n S F → F.length ≤ 635 := fun F h => by
    obtain ⟨E, e, nd⟩ := h.app
    have : E.length ≤ (boxL (List.replicate n 4)).length := nodup_len nd fun y hy => by
      have hy' : y ∈ F := by rw [e]; exact List.mem_append_right _ hy
      have hc := h.cl y hy'
      have nn := hc.nn nS
      obtain ⟨s0, hs0, es⟩ := hc.sum
      have := sS s0 hs0
      rw [mem_boxL, List.length_replicate]
      refine ⟨nn.1, fun j hj => ⟨nn.at hj, ?_⟩⟩
      rw [gd_rep hj]
      have := le_sum nn.2 _ (gd_mem (show j < y.length by rw [nn.1]; exact hj))
      omega
    have h2 : (boxL (List.replicate n 4)).length ≤ 625 := by
      refine Nat.le_trans (box_len _ 5 fun t ht => ?_) ?_
      · rw [(List.mem_replicate.mp ht).2]
        decide
      · rw [List.length_replicate]
        exact Nat.le_trans (Nat.pow_le_pow_right (by decide) h4) (by decide)
    rw [e, List.length_append]
    omega
  refine seq fun N hN => ?_
  obtain ⟨M, hM⟩ : ∃ M : Nat, M = 5000 := ⟨_, rfl⟩
  walk_at "D"
  refine ⟨by decide, by decide, ?_⟩
  rw [show (5000 : Int).toNat = M by rw [hM]; rfl]
  try rw [rngD0]
  refine for_byT _ (fun i ε s => (∃ x2 x3 x4, ε = [some x, some (.r p), x2, x3, x4, none, none]) ∧ Le st s ∧ ∃ F, s p = some (.lst ((F.map TI).map .d)) ∧ HF n S F ∧ ∀ k < i, k < F.length → ∀ y ∈ downs (F.getD k []), y ∈ F) ⟨⟨_, _, _, rfl⟩, le_up1 hp, S, up_same, ⟨fun y hy => .of hy, ⟨[], (List.append_nil S).symm, List.nodup_nil⟩⟩, fun k hk => absurd hk (Nat.not_lt_zero k)⟩ (fun _ _ _ _ => trivial) ?_ ?_
  · rintro i p0 ε s hi ⟨⟨x2, x3, x4, rfl⟩, le, F, hs, hF, hd⟩ L hL
    obtain ⟨rfl, hp0⟩ := range_some hi
    have lF := lenH F hF
    walk_at "D"
    simp only [hs]
    walk_at "D"
    by_cases hlt : (p0 : Int) < (F.length : Int)
    · simp only [hlt, decide_true, if_true]
      have hlt' : p0 < F.length := by omega
      refine seq fun N2 hN2 => ?_
      walk_at "D"
      simp only [hs]
      walk_at "D"
      rw [atI_map2 hlt']
      refine hN2 _ _ ?_; clear hN2 N2
      have hel : F.getD p0 [] = F[p0] := by rw [List.getD_eq_getElem?_getD, List.getElem?_eq_getElem hlt']; rfl
      have hcl := hF.cl _ (List.getElem_mem hlt')
      generalize F[p0] = a at hel hcl
      have na := hcl.nn nS
      have hal : a.length ≤ 4 := by rw [na.1]; exact h4
      walk_at "D"
      refine ⟨by omega, by omega, ?_⟩
      refine for_byT _ (fun k ε s' => (∃ x4, ε = [some x, some (.r p), some (I p0), some (.d (TI a)), x4, none, none]) ∧ Le st s' ∧ ∃ F2, s' p = some (.lst ((F2.map TI).map .d)) ∧ HF n S F2 ∧ (∃ E, F2 = F ++ E) ∧ ∀ m < k, 0 < gd a m → ∀ j < m, mvL a m j ∈ F2) ⟨⟨_, rfl⟩, le, F, hs, hF, ⟨[], (List.append_nil F).symm⟩, fun m hm => absurd hm (Nat.not_lt_zero m)⟩ (fun _ _ _ _ => trivial) ?_ ?_
      · rintro k m ε s' hk ⟨⟨x4, rfl⟩, le', F2, hs', hF2, ⟨E, hE⟩, hdm⟩ L2 hL2
        obtain ⟨rfl, hm⟩ := range_some hk
        have lF2 := lenH F2 hF2
        walk_at "D"
        rw [atI_gd hm]
        walk_at "D"
        by_cases c : 0 < gd a m
        · simp only [c, decide_true, if_true]
          walk_at "D"
          refine ⟨⟨_, hs'⟩, by omega, by omega, by rw [List.length_range, sizeL]; omega, ?_⟩
          refine comp_mapT _ (fun (j : Nat) => DV.d (TI (mvL a m j))) trivial _ _ ?_ ?_
          · intro j hj Q2 h2
            walk_at "D"
            exact ⟨a, m, j, rfl, by omega, h2⟩
          rw [List.nil_append, show (List.range m).map (fun (j : Nat) => DV.d (TI (mvL a m j))) = (((List.range m).map fun j => mvL a m j).map TI).map .d by rw [List.map_map, List.map_map]; rfl]
          have rnd : ((List.range m).map fun j => mvL a m j).Nodup := mv_nodup (by omega)
          have rcl : ∀ y ∈ (List.range m).map (fun j => mvL a m j), Cl S y := fun y hy => by
            obtain ⟨j, hj, rfl⟩ := List.mem_map.mp hy
            exact .mv hcl c (List.mem_range.mp hj)
          have rmem : ∀ j < m, mvL a m j ∈ (List.range m).map (fun j => mvL a m j) := fun j hj => List.mem_map.mpr ⟨j, List.mem_range.mpr hj, rfl⟩
          have rlen : ((List.range m).map fun j => mvL a m j).length ≤ 4 := by rw [List.length_map, List.length_range]; omega
          generalize (List.range m).map (fun j => mvL a m j) = R at rnd rcl rmem rlen
          walk_at "D"
          refine ⟨by rw [sizeL]; omega, ?_⟩
          rw [List.map_map]
          refine comp_fmT _ (fun b => !decide (b ∈ F2)) (fun b => .d (TI b)) trivial _ _ ?_ ?_
          · intro b hb Q1 Q2 h
            walk_at "D"
            rw [in_TR true b F2 _ hs']
            walk_at "D"
            exact h
          rw [List.nil_append, show (R.filter fun b => !decide (b ∈ F2)).map (fun b => DV.d (TI b)) = ((R.filter fun b => !decide (b ∈ F2)).map TI).map .d by rw [List.map_map]; rfl]
          walk_at "D"
          have hfl : (R.filter fun b => !decide (b ∈ F2)).length ≤ R.length := List.length_filter_le _ _
          have hfm : ∀ y, y ∈ R.filter (fun b => !decide (b ∈ F2)) ↔ y ∈ R ∧ y ∉ F2 := fun y => by
            rw [List.mem_filter, Bool.not_eq_true', decide_eq_false_iff_not]
          have hfn : (R.filter fun b => !decide (b ∈ F2)).Nodup := List.filter_sublist.nodup rnd
          generalize R.filter (fun b => !decide (b ∈ F2)) = R2 at hfl hfm hfn
          refine ⟨_, _, hs', rfl, by simp only [List.length_map, sizeL]; omega, ?_⟩
          refine hL2 _ _ ⟨⟨_, rfl⟩, le_upN hp le', F2 ++ R2, by rw [up_same, List.map_append, List.map_append], ⟨fun y hy => ?_, ?_⟩, ⟨E ++ R2, by rw [hE, List.append_assoc]⟩, fun m' hm' h0 j hj => ?_⟩
          · rcases List.mem_append.mp hy with hy | hy
            · exact hF2.cl y hy
            · exact rcl y ((hfm y).mp hy).1
          · obtain ⟨E2, e2, nd2⟩ := hF2.app
            refine ⟨E2 ++ R2, by rw [e2, List.append_assoc], List.nodup_append.mpr ⟨nd2, hfn, fun y hy z hz e => ?_⟩⟩
            refine ((hfm z).mp hz).2 ?_
            rw [← e, e2]
            exact List.mem_append_right _ hy
          · by_cases e : m' = m
            · subst e
              by_cases hin : mvL a m' j ∈ F2
              · exact List.mem_append_left _ hin
              · exact List.mem_append_right _ ((hfm _).mpr ⟨rmem j hj, hin⟩)
            · exact List.mem_append_left _ (hdm m' (by omega) h0 j hj)
        · simp only [c, decide_false, Bool.false_eq_true, if_false]
          refine hL2 _ _ ⟨⟨_, rfl⟩, le', F2, hs', hF2, ⟨E, hE⟩, fun m' hm' h0 j hj => ?_⟩
          by_cases e : m' = m
          · rw [e] at h0
            exact absurd h0 c
          · exact hdm m' (by omega) h0 j hj
      · rintro ε s' ⟨⟨x4, rfl⟩, le', F2, hs', hF2, ⟨E, hE⟩, hdm⟩
        rw [List.length_range] at hdm
        refine hL _ _ ⟨⟨_, _, _, rfl⟩, le', F2, hs', hF2, fun k hk hk2 y hy => ?_⟩
        by_cases e : k = p0
        · subst e
          rw [hE, getD_app hlt', hel] at hy
          obtain ⟨m, j, h0, hj, rfl⟩ := mem_downs.mp hy
          exact hdm m (lt_of_pos h0) h0 j hj
        · have hk3 : k < p0 := by omega
          rw [hE, getD_app (by omega)] at hy
          have := hd k hk3 (by omega) y hy
          rw [hE]
          exact List.mem_append_left _ this
    · simp only [hlt, decide_false, Bool.false_eq_true, if_false]
      refine hL _ _ ⟨⟨_, _, _, rfl⟩, le, F, hs, hF, fun k hk hk2 => hd k (by omega) hk2⟩
  · rintro ε s ⟨⟨x2, x3, x4, rfl⟩, le, F, hs, hF, hd⟩
    rw [List.length_range] at hd
    have lF := lenH F hF
    refine hN _ _ ?_
    walk_at "D"
    have nF : NNs n F := fun y hy => (hF.cl y hy).nn nS
    have hcl : ∀ y, Cl S y → y ∈ F := fun y c => by
      induction c with
      | of h =>
        obtain ⟨E, e, _⟩ := hF.app
        rw [e]
        exact List.mem_append_left _ h
      | mv c h0 hj ih =>
        obtain ⟨k, hk, e⟩ := List.mem_iff_getElem.mp ih
        refine hd k (by omega) hk _ ?_
        rw [List.getD_eq_getElem?_getD, List.getElem?_eq_getElem hk, Option.getD_some, e]
        exact mem_downs.mpr ⟨_, _, h0, hj, rfl⟩
    refine ⟨_, F, n, 60, rfl, by simp only [sitems, titems, litems, hs], ⟨h1, by omega, by omega, fun y hy => ?_⟩, ?_⟩
    · obtain ⟨s0, hs0, es⟩ := (hF.cl y hy).sum
      have := sS s0 hs0
      exact mon_of_sum (nF y hy) (by omega)
    refine fg_le le (K _ ⟨hull_of nS hF.cl fun y c => inL_iff.mpr ⟨y, hcl y c, divB_refl y⟩, min_idem nF.len, fun y hy => hF.cl y (min_sub y hy)⟩)
/-- ideals that are judged -/
structure Good (n : Nat) (w : Int) (G : List (List Int)) : Prop where
  red : minL G = G
  nn : NNs n G
  sum : ∀ a ∈ G, a.sum ≤ w
theorem Good.len {n : Nat} {w : Int} {G : List (List Int)} (h : Good n w G) (h1 : 1 ≤ n) (h4 : n ≤ 4) (hw : w ≤ 5) : G.length ≤ 56 := by
  have m := mins_minL (S := G) (n := n) h.nn.len
  rw [h.red] at m
  exact Nat.le_trans (few_upto (D := 5) h1 (ris_nodup m.ris) h.nn (fun a ha => by have := h.sum a ha; omega) m.anti) (degR_56 h4 (by decide))
theorem Good.mono {n : Nat} {w w' : Int} {G : List (List Int)} (h : Good n w G) (hw : w ≤ w') : Good n w' G := ⟨h.red, h.nn, fun a ha => Int.le_trans (h.sum a ha) hw⟩
theorem HullB.good {n : Nat} {w : Int} {S H : List (List Int)} (h : HullB n S H) (nS : NNs n S) (sS : ∀ a ∈ S, a.sum ≤ w) : Good n w H := ⟨h.2.1, fun a ha => (h.2.2 a ha).nn nS, fun a ha => by
  obtain ⟨s0, hs0, e⟩ := (h.2.2 a ha).sum
  rw [e]
  exact sS s0 hs0⟩
theorem cut_drop {α : Type} (xs : List α) (k : Nat) : cutD xs (some (k : Int)) none = xs.drop k := by
  unfold cutD
  rw [HT.sIx_nat, HT.sIx_none]
  by_cases h : k ≤ xs.length
  · rw [Nat.min_eq_left h, List.take_of_length_le (by rw [List.length_drop]; omega)]
  · rw [Nat.min_eq_right (by omega), List.drop_length, List.drop_eq_nil_of_le (by omega), List.take_nil]
def sp_law_bent : SpD := fun xs st Q => ∃ (a : Addr) (n : Nat) (G : List (List Int)) (B : Nat), xs = [.r a, .d (TT G)] ∧ 1 ≤ n ∧ n ≤ 4 ∧ Good n 4 G ∧ B + 100 < 2 ^ 50 ∧ DrawSt st a B ∧
  ∀ (H : List (List Int)) st', Good n 5 H → DrawSt st' a (B + 100) → (∀ b, b ≠ a → st' b = st b) → Q (.d (TT H)) st'
theorem len_law_bent : ∀ xs st Q, sp_law_bent xs st Q → xs.length = 2 := by rintro xs st Q ⟨a, n, G, B, rfl, _⟩; rfl
theorem sem_law_bent : ∀ xs st Q, sp_law_bent xs st Q → rd_law_bent sp_law_draw sp_law_least { nx := fun _ st' => Fg Q (.d .none) st', rt := Fg Q } (startD 6 xs) st := by
  rintro xs st Q ⟨m, n, G, B, rfl, h1, h4, hG, hB, D, K⟩
  have e0 : startD 6 [.r m, .d (TT G)] = [some (.r m), some (.d (TT G)), none, none, none, none] := rfl
  rw [e0]
  unfold rd_law_bent
  have lG := hG.len h1 h4 (by decide)
  refine seq fun N hN => ?_
  walk_at "D"
  by_cases hz : G = []
  · subst hz
    simp only [decide_true, if_true]
    exact ⟨Nat.zero_le _, Nat.zero_le _, fg_ret (K [] st (hG.mono (by decide)) (D.mono (by omega)) fun _ _ => rfl)⟩
  simp only [hz, decide_false, Bool.false_eq_true, if_false]
  have hpos : 0 < G.length := by
    rcases Nat.eq_zero_or_pos G.length with h | h
    · exact absurd (List.eq_nil_of_length_eq_zero h) hz
    · exact h
  refine ⟨Nat.zero_le _, hN _ _ ?_⟩; clear hN N
  refine seq fun N hN => ?_
  walk_at "D"
  refine draw D (by omega) (by omega) (by omega) fun v s1 l1 u1 D1 f1 => ?_
  obtain ⟨k, rfl⟩ : ∃ k : Nat, v = (k : Int) := ⟨v.toNat, by omega⟩
  have hk : k < G.length := by omega
  refine hN _ _ ?_; clear hN N
  refine seq fun N hN => ?_
  walk_at "D"
  rw [atI_map2 hk]
  refine hN _ _ ?_; clear hN N
  have hin : G[k] ∈ G := List.getElem_mem hk
  have na := hG.nn _ hin
  have sa := hG.sum _ hin
  generalize G[k] = a at hin na sa
  have hal : a.length = n := na.1
  refine seq fun N hN => ?_
  walk_at "D"
  refine draw D1 (by omega) (by omega) (by omega) fun v s2 l2 u2 D2 f2 => ?_
  obtain ⟨t, rfl⟩ : ∃ t : Nat, v = (t : Int) := ⟨v.toNat, by omega⟩
  have ht : t < a.length := by omega
  refine hN _ _ ?_; clear hN N
  refine seq fun N hN => ?_
  have fin : ∀ (M : List (List Int)) (s : Sto) (B' : Nat), B' ≤ B + 100 → DrawSt s m B' → (∀ b, b ≠ m → s b = st b) → (∀ y ∈ M, NN n y ∧ y.sum ≤ 5) → M.length ≤ 1 → N [some (.r m), some (.d (TT G)), some (I k), some (.d (TI a)), some (I t), some (.d (LT M))] s := fun M s B' hB' Ds fs hM lM => by
    refine hN _ _ ?_
    walk_at "D"
    rw [cutD_map, cutD_map, cutD_take, show ((k : Int) + 1) = ((k + 1 : Nat) : Int) by omega, cutD_map, cutD_map, cut_drop]
    walk_at "D"
    have t1 : (G.take k).length ≤ 56 := Nat.le_trans (by rw [List.length_take]; exact Nat.min_le_right _ _) lG
    have t2 : (G.drop (k + 1)).length ≤ 56 := Nat.le_trans (by rw [List.length_drop]; omega) lG
    refine ⟨by rw [sizeL]; omega, ?_⟩
    rw [← List.map_append, ← List.map_append, datas_map]
    refine ⟨by rw [List.length_map, List.length_append, sizeL]; omega, ?_⟩
    rw [← List.map_append, ← List.map_append, datas_map]
    have hm : ∀ y ∈ (G.take k ++ G.drop (k + 1)) ++ M, NN n y ∧ y.sum ≤ 5 := fun y hy => by
      rcases List.mem_append.mp hy with hy | hy
      · have : y ∈ G := (List.mem_append.mp hy).elim List.mem_of_mem_take List.mem_of_mem_drop
        exact ⟨hG.nn y this, by have := hG.sum y this; omega⟩
      · exact hM y hy
    have hl : ((G.take k ++ G.drop (k + 1)) ++ M).length < 4000 := by
      rw [List.length_append, List.length_append]
      omega
    generalize (G.take k ++ G.drop (k + 1)) ++ M = T at hm hl
    have nT : NNs n T := fun y hy => (hm y hy).1
    refine ⟨_, T, n, 60, rfl, rfl, ⟨h1, by omega, hl, fun y hy => mon_of_sum (nT y hy) (by have := (hm y hy).2; omega)⟩, ?_⟩
    exact fg_ret (K _ s ⟨min_idem nT.len, fun y hy => nT y (min_sub y hy), fun y hy => (hm y (min_sub y hy)).2⟩ (Ds.mono hB') fs)
  walk_at "D"
  refine draw D2 (by omega) (by omega) (by omega) fun v s3 l3 u3 D3 f3 => ?_
  walk_at "D"
  have f03 : ∀ b, b ≠ m → s3 b = st b := fun b hb => (f3 b hb).trans ((f2 b hb).trans (f1 b hb))
  by_cases c : v = 0
  · simp only [c, decide_true, if_true]
    exact ⟨Nat.zero_le _, fin [] s3 _ (by omega) D3 f03 (fun y hy => nomatch hy) (Nat.zero_le _)⟩
  · simp only [c, decide_false, Bool.false_eq_true, if_false]
    walk_at "D"
    rw [atI_gd ht, cutD_map, cutD_map, cutD_take, show ((t : Int) + 1) = ((t + 1 : Nat) : Int) by omega, cutD_map, cutD_map, cut_drop]
    walk_at "D"
    have lt1 : (a.take t).length ≤ 4 := by rw [List.length_take]; omega
    have ld1 : (a.drop (t + 1)).length ≤ 4 := by rw [List.length_drop]; omega
    refine ⟨by rw [sizeL]; decide, by rw [sizeL]; omega, by rw [sizeL]; omega, by rw [sizeL]; decide, ?_⟩
    rw [← List.map_append, ← List.map_append, mkT_map]
    have hsplit : a = a.take t ++ gd a t :: a.drop (t + 1) := by
      rw [← gd_eq ht, ← List.drop_eq_getElem_cons ht, List.take_append_drop]
    have hb : NN n (a.take t ++ [gd a t + 1] ++ a.drop (t + 1)) ∧ (a.take t ++ [gd a t + 1] ++ a.drop (t + 1)).sum ≤ 5 := by
      have e1 : (a.take t ++ [gd a t + 1] ++ a.drop (t + 1)).sum = a.sum + 1 := by
        rw [congrArg List.sum hsplit]
        simp only [List.sum_append, List.sum_cons, List.sum_nil]
        omega
      refine ⟨⟨?_, fun y hy => ?_⟩, by omega⟩
      · rw [List.length_append, List.length_append, List.length_take, List.length_drop, List.length_singleton]
        omega
      · rcases List.mem_append.mp hy with hy | hy
        · rcases List.mem_append.mp hy with hy | hy
          · exact na.2 y (List.mem_of_mem_take hy)
          · rw [List.mem_singleton.mp hy]
            have := na.at (show t < n by omega)
            omega
        · exact na.2 y (List.mem_of_mem_drop hy)
    generalize a.take t ++ [gd a t + 1] ++ a.drop (t + 1) = b at hb
    exact fin [b] s3 _ (by omega) D3 f03 (fun y hy => by rw [List.mem_singleton.mp hy]; exact hb) (Nat.le_refl _)
def sp_law_squarefree : SpD := fun xs st Q => ∃ (a : Addr) (n cnt : Nat) (B : Nat), xs = [.r a, I n, I cnt] ∧ 1 ≤ n ∧ n ≤ 100 ∧ cnt ≤ 60 ∧ B + 20000 < 2 ^ 50 ∧ DrawSt st a B ∧
  ∀ (L : List (List Int)) st', Idl n 1 cnt L → DrawSt st' a (B + 20000) → (∀ b, b ≠ a → st' b = st b) → Q (.d (idl n L)) st'
theorem len_law_squarefree : ∀ xs st Q, sp_law_squarefree xs st Q → xs.length = 3 := by rintro xs st Q ⟨a, n, c, B, rfl, _⟩; rfl
theorem sem_law_squarefree : ∀ xs st Q, sp_law_squarefree xs st Q → rd_law_squarefree sp_law_ideal { nx := fun _ st' => Fg Q (.d .none) st', rt := Fg Q } (startD 3 xs) st := by
  rintro xs st Q ⟨a, n, cnt, B, rfl, h1, h2, h3, hB, D, K⟩
  have e0 : startD 3 [.r a, I n, I cnt] = [some (.r a), some (I n), some (I cnt)] := rfl
  rw [e0]
  unfold rd_law_squarefree
  walk_at "D"
  refine ⟨a, n, cnt, 1, B, rfl, h1, h2, h3, by decide, by decide, hB, D, fun L s hL _ D1 fr => ?_⟩
  exact fg_ret (K L s hL D1 fr)
theorem go_neS {x : Str} {st : Sto} {Q : DV → Sto → Prop} (h : Q (Bo false) st) : qNeS (.d (.str x)) (.d (.str x)) st Q := by
  show Q (.d (.bool (x.cps.toList != x.cps.toList))) st
  have e : (x.cps.toList != x.cps.toList) = false := by simp
  rw [e]
  exact h
theorem shw_int60 {i : Int} (h : 0 ≤ i ∧ i ≤ 60) : Shw 0 (.int i) := ⟨by
  obtain ⟨h1, h2⟩ := h
  obtain ⟨n, rfl⟩ : ∃ n : Nat, i = (n : Int) := ⟨i.toNat, by omega⟩
  show decide _ = true
  have e : n.log2 < 1920 := by
    have : n.log2 ≤ n := Nat.log2_le_self n
    omega
  exact decide_eq_true e, by
  show PyData.leavesShort 13 (.int i) = true
  simp only [PyData.leavesShort, decide_eq_true_eq]
  exact PyData.shown_int_le2 (by have := h.1; omega) (by have := h.2; omega), by simp only [PyData.hasDict], by simp only [PyData.bulk]; omega⟩
theorem shw_none : Shw 0 .none := ⟨by simp only [PyData.showable], by simp only [PyData.leavesShort], by simp only [PyData.hasDict], by simp only [PyData.bulk]; omega⟩
theorem ok_res {r : Option (Nat × Nat × Nat)} {w : Option (Nat × Nat)} (hr : ∀ t, r = some t → t.1 ≤ 60 ∧ t.2.1 ≤ 60 ∧ t.2.2 ≤ 60) (hw : ∀ t, w = some t → t.1 ≤ 60 ∧ t.2 ≤ 60) : reprOk (.list [resS r, resW w]) := by
  have s1 : Shw 3 (resS r) := by
    cases r with
    | none => exact shw_none.mono (by decide)
    | some t =>
      obtain ⟨a, b, c⟩ := hr t rfl
      refine shw_tup (n := 0) (fun x hx => ?_) (Nat.le_refl _)
      rcases List.mem_cons.mp hx with rfl | hx
      · exact shw_int60 ⟨by omega, by omega⟩
      rcases List.mem_cons.mp hx with rfl | hx
      · exact shw_int60 ⟨by omega, by omega⟩
      rw [List.mem_singleton.mp hx]
      exact shw_int60 ⟨by omega, by omega⟩
  have s2 : Shw 3 (resW w) := by
    cases w with
    | none => exact shw_none.mono (by decide)
    | some t =>
      obtain ⟨a, b⟩ := hw t rfl
      refine (shw_tup (n := 0) (k := 2) (fun x hx => ?_) (Nat.le_refl _)).mono (by decide)
      rcases List.mem_cons.mp hx with rfl | hx
      · exact shw_int60 ⟨by omega, by omega⟩
      rw [List.mem_singleton.mp hx]
      exact shw_int60 ⟨by omega, by omega⟩
  refine (shw_lst (n := 3) (k := 8) (fun x hx => ?_) (Nat.le_refl _)).ok (by decide) ?_
  · rcases List.mem_cons.mp hx with rfl | hx
    · exact s1
    · rw [List.mem_singleton.mp hx]; exact s2
  · cases r <;> cases w <;> simp [resS, resW, PyData.depth, PyData.depthAll]
def sp_law_right : SpD := fun xs st Q => ∃ (G : List (List Int)) (n : Nat), xs = [.d (idl n G)] ∧ 1 ≤ n ∧ n ≤ 4 ∧ Good n 5 G ∧ Q (Bo true) st
theorem len_law_right : ∀ xs st Q, sp_law_right xs st Q → xs.length = 1 := by rintro xs st Q ⟨G, n, rfl, _⟩; rfl
theorem sem_law_right : ∀ xs st Q, sp_law_right xs st Q → rd_law_right sp_law_stable_place sp_law_strong_place sp_stable_breach sp_strong_breach sp_stable_hull { nx := fun _ st' => Fg Q (.d .none) st', rt := Fg Q } (startD 4 xs) st := by
  rintro xs st Q ⟨G, n, rfl, h1, h4, hG, K⟩
  have e0 : startD 4 [.d (idl n G)] = [some (.d (idl n G)), none, none, none] := rfl
  rw [e0]
  unfold rd_law_right
  have lG := hG.len h1 h4 (by decide)
  have nG := hG.nn
  refine seq fun N hN => ?_
  walk_at "D"
  refine hN _ _ ?_; clear hN N
  refine seq fun N hN => ?_
  walk_at "D"
  refine ⟨G, n, rfl, by omega, by omega, nG, fun r hr => ?_⟩
  walk_at "D"
  refine ⟨G, n, rfl, by omega, by omega, nG, fun w hw => ?_⟩
  walk_at "D"
  refine hN _ _ ?_; clear hN N
  refine seq fun N hN => ?_
  walk_at "D"
  refine ⟨G, n, rfl, by omega, by omega, nG, fun r2 hr2 => ?_⟩
  have er := first_uniq hr2 hr
  subst er
  walk_at "D"
  refine ⟨G, n, rfl, by omega, by omega, nG, fun w2 hw2 => ?_⟩
  have ew := firstw_uniq hw2 hw
  subst ew
  walk_at "D"
  have okr : reprOk (.list [resS r2, resW w2]) := ok_res (fun t ht => by
      subst ht
      obtain ⟨⟨b1, b2, b3, _⟩, _⟩ := hr2
      have hg : G.getD t.1 [] ∈ G := by
        rw [List.getD_eq_getElem?_getD, List.getElem?_eq_getElem b1]
        exact List.getElem_mem b1
      have := lt_of_pos b2
      rw [(nG _ hg).1] at this
      omega) (fun t ht => by
      subst ht
      obtain ⟨⟨m, _, b1, b2, b3, _⟩, _⟩ := hw2
      have hg : G.getD t.1 [] ∈ G := by
        rw [List.getD_eq_getElem?_getD, List.getElem?_eq_getElem b1]
        exact List.getElem_mem b1
      have := lt_of_pos b2
      rw [(nG _ hg).1] at this
      omega)
  refine ⟨by rw [sizeL]; decide, okr, (fun x h => nomatch h), by rw [sizeL]; decide, okr, (fun x h => nomatch h), ?_⟩
  refine go_neS ?_
  walk_at "D"
  refine hN _ _ ?_; clear hN N
  refine seq fun N hN => ?_
  have last : N [some (.d (idl n G)), some (.d (TT G)), some (.d (resS r2)), some (.d (resW w2))] st := by
    refine hN _ _ ?_
    walk_at "D"
    refine ⟨_, G, n, rfl, rfl, h1, h4, nG, hG.sum, by omega, fun H hH => ?_⟩
    have key := hull_self nG hG.red hH hr2
    walk_at "D"
    have e : decide (decide (H = G) = isN (DV.d (resS r2))) = true := by
      have e2 : isN (DV.d (resS r2)) = decide (r2 = none) := by cases r2 <;> rfl
      rw [e2, decide_eq_true_eq, Bool.eq_iff_iff, decide_eq_true_eq, decide_eq_true_eq]
      exact key
    rw [e]
    exact fg_ret K
  walk_at "D"
  cases r2 with
  | none =>
    have ew := strong_weak hr2 hw2
    subst ew
    have a1 : isN (DV.d (resS none)) = true := rfl
    have a2 : isN (DV.d (resW none)) = true := rfl
    simp only [a1, a2, if_true, Bool.not_true, Bool.false_eq_true, if_false]
    exact last
  | some t =>
    have a1 : isN (DV.d (resS (some t))) = false := rfl
    simp only [a1, Bool.false_eq_true, if_false]
    exact last
def sp_law : SpD := fun xs st Q => ∃ ns : List Int, xs = [.d (.list (ns.map .int))] ∧ ns.length ≤ 63 ∧ ∀ st', Q (Bo true) st'
theorem len_law : ∀ xs st Q, sp_law xs st Q → xs.length = 1 := by rintro xs st Q ⟨ns, rfl, _⟩; rfl
theorem law_true : ∀ ns : List Int, ns.length ≤ 63 → sp_law [.d (.list (ns.map .int))] (fun _ => none) (fun x _ => x = .d (.bool true)) := fun ns h => ⟨ns, rfl, h, fun _ => rfl⟩
theorem sem_law : ∀ xs st Q, sp_law xs st Q → rd_law sp_law_begun sp_law_draw sp_law_monomial sp_law_hull sp_stable_hull sp_law_in sp_law_squarefree sp_law_bent sp_law_right { nx := fun _ st' => Fg Q (.d .none) st', rt := Fg Q } (startD 9 xs) st := by
  rintro xs st Q ⟨ns, rfl, hns, K⟩
  have e0 : startD 9 [.d (.list (ns.map .int))] = [some (.d (.list (ns.map .int))), none, none, none, none, none, none, none, none] := rfl
  rw [e0]
  unfold rd_law
  refine seq fun N0 hN0 => ?_
  walk_at "D"
  refine ⟨by decide, by decide, ?_⟩
  rw [show (3 : Int).toNat = 3 from rfl]
  try rw [rngD0]
  refine for_byT _ (fun _ ε s => ∃ x1 x2 x3 x4 x5 x6, ε = [some (.d (.list (ns.map .int))), x1, x2, x3, x4, x5, x6, none, none]) ⟨_, _, _, _, _, _, rfl⟩ (fun _ _ _ _ => trivial) ?_ ?_
  rotate_left
  · rintro ε s ⟨x1, x2, x3, x4, x5, x6, rfl⟩
    refine hN0 _ _ ?_
    walk_at "D"
    have sz1 : 0 + 1 ≤ sizeLine := by rw [sizeL]; decide
    have sz2 : 0 + 1 + 1 ≤ sizeLine := by rw [sizeL]; decide
    have n2 : NNs 2 [[0, 0], [0, 3]] := fun a ha => by
      rcases List.mem_cons.mp ha with rfl | ha
      · exact ⟨rfl, by decide⟩
      · rw [List.mem_singleton.mp ha]; exact ⟨rfl, by decide⟩
    refine ⟨sz2, sz2, sz2, _, [[0, 0], [0, 3]], 2, rfl, rfl, by decide, by decide, n2, (fun a ha => ?_), by decide, fun H hH => ?_⟩
    · rcases List.mem_cons.mp ha with rfl | ha
      · decide
      · rw [List.mem_singleton.mp ha]; decide
    have e1 : H = [[0, 0]] := hull_uniq hH ⟨[[0, 0]], (fun x hx => by rw [List.mem_singleton.mp hx]; rfl), by decide +kernel, fun c hc => ⟨fun h => ?_, fun ⟨x, hx, d⟩ => ?_⟩⟩
    rotate_left
    · obtain ⟨g, hg, d⟩ := inL_iff.mp h
      exact ⟨g, .of (by rw [List.mem_singleton.mp hg]; exact List.mem_cons_self), d⟩
    · have nx := hx.nn n2
      exact inL_iff.mpr ⟨[0, 0], List.mem_singleton.mpr rfl, divB_trans rfl nx.1 hc (zero_div (n := 2) nx) d⟩
    subst e1
    have q1 : PyData.eqv (idl 2 [[0, 0]]) (PyData.tuple [PyData.int 2, PyData.tuple [PyData.tuple [PyData.int 0, PyData.int 0]]]) = true := by decide +kernel
    have q2 : PyData.eqv (idl 3 []) (PyData.tuple [PyData.int 3, PyData.tuple []]) = true := by decide +kernel
    have w1 : SeqAt.shaped (idl 2 [[0, 0]]) = true := by decide +kernel
    have w2 : SeqAt.shaped (PyData.tuple [PyData.int 2, PyData.tuple [PyData.tuple [PyData.int 0, PyData.int 0]]]) = true := by decide +kernel
    have w3 : SeqAt.shaped (idl 3 []) = true := by decide +kernel
    have w4 : SeqAt.shaped (PyData.tuple [PyData.int 3, PyData.tuple []]) = true := by decide +kernel
    refine ⟨sz2, sz1, sz2, w1, w2, ?_⟩
    simp only [q1, if_true]
    refine ⟨Nat.zero_le _, _, [], 3, rfl, rfl, by decide, by decide, (fun a ha => nomatch ha), (fun a ha => nomatch ha), by decide, fun H hH => ?_⟩
    have e2 : H = [] := hull_uniq hH ⟨[], (fun x hx => nomatch hx), by decide +kernel, fun c hc => ⟨fun h => (nomatch h), fun ⟨x, hx, d⟩ => ?_⟩⟩
    rotate_left
    · obtain ⟨s0, hs0, _⟩ := hx.sum
      cases hs0
    subst e2
    refine ⟨Nat.zero_le _, sz2, w3, w4, ?_⟩
    simp only [q2]
    exact fg_ret (K _)
  clear hN0
  rintro i k ε s hk ⟨x1, x2, x3, x4, x5, x6, rfl⟩ L hL
  obtain ⟨rfl, hi⟩ := range_some hk
  refine seq fun N hN => ?_
  walk_at "D"
  refine begun hns (by omega) (by omega) fun m s1 D1 _ => ?_
  refine hN _ _ ?_; clear hN N
  refine seq fun N hN => ?_
  walk_at "D"
  refine draw D1 (by omega) (by omega) (by omega) fun v s2 l2 u2 D2 _ => ?_
  walk_at "D"
  obtain ⟨n, hn⟩ : ∃ n : Nat, 1 + v = (n : Int) := ⟨(1 + v).toNat, by omega⟩
  rw [hn]
  refine hN _ _ ?_; clear hN N
  have h1 : 1 ≤ n := by omega
  have h4 : n ≤ 4 := by omega
  refine seq fun N hN => ?_
  walk_at "D"
  refine draw D2 (by omega) (by omega) (by omega) fun v s3 l3 u3 D3 _ => ?_
  walk_at "D"
  obtain ⟨c, hc⟩ : ∃ c : Nat, 1 + v = (c : Int) := ⟨(1 + v).toNat, by omega⟩
  rw [hc]
  walk_at "D"
  refine ⟨by omega, by omega, by rw [List.length_range, sizeL]; omega, ?_⟩
  refine comp_wordI _ (fun i acc s => ∃ M : List (List Int), acc = (M.map TI).map .d ∧ M.length = i ∧ (∀ a ∈ M, Mon n 2 a) ∧ DrawSt s m (10 + 200 * i)) (fun _ _ _ _ => trivial) (List.range c) s3 ⟨[], rfl, rfl, (fun a ha => nomatch ha), D3.mono (by omega)⟩ ?_ ?_
  · rintro i p acc s hp ⟨M, rfl, hl, hM, Ds⟩ Q1 h
    obtain ⟨rfl, hpc⟩ := range_some hp
    walk_at "D"
    refine ⟨m, n, 2, _, rfl, by omega, by omega, by omega, by omega, Ds, fun a s' ha D' _ => ?_⟩
    refine h _ _ ⟨M ++ [a], ?_, by rw [List.length_append, hl]; rfl, fun y hy => ?_, D'.mono (by omega)⟩
    · rw [List.map_append, List.map_append]
      rfl
    · rcases List.mem_append.mp hy with hy | hy
      · exact hM y hy
      · rw [List.mem_singleton.mp hy]; exact ha
  rintro acc s4 ⟨M, rfl, hl, hM, D4⟩
  rw [List.length_range] at hl D4
  have D4 := D4.mono (B' := 1000) (by omega)
  walk_at "D"
  refine hN _ _ ?_; clear hN N
  refine seq fun N hN => ?_
  walk_at "D"
  refine ⟨by rw [sizeL]; omega, ?_⟩
  rw [List.map_map]
  refine comp_fmT _ (fun a => decide (0 < a.sum) && decide (a.sum ≤ 4)) (fun a => .d (TI a)) trivial _ _ ?_ ?_
  · intro a ha Q1 Q2 h
    walk_at "D"
    by_cases c1 : 0 < a.sum
    · simp only [c1, decide_true, Bool.true_and, if_true] at h ⊢
      exact h
    · simp only [c1, decide_false, Bool.false_and, Bool.false_eq_true, if_false] at h ⊢
      exact h
  rw [List.nil_append, show (M.filter fun a => decide (0 < a.sum) && decide (a.sum ≤ 4)).map (fun a => DV.d (TI a)) = ((M.filter fun a => decide (0 < a.sum) && decide (a.sum ≤ 4)).map TI).map .d by rw [List.map_map]; rfl]
  have hS : ∀ a ∈ M.filter (fun a => decide (0 < a.sum) && decide (a.sum ≤ 4)), NN n a ∧ a.sum ≤ 4 := fun a ha => by
    obtain ⟨h1, h2⟩ := List.mem_filter.mp ha
    rw [Bool.and_eq_true] at h2
    exact ⟨(hM a h1).nn, of_decide_eq_true h2.2⟩
  have lS : (M.filter fun a => decide (0 < a.sum) && decide (a.sum ≤ 4)).length ≤ 3 := Nat.le_trans (List.length_filter_le _ _) (by omega)
  generalize M.filter (fun a => decide (0 < a.sum) && decide (a.sum ≤ 4)) = S at hS lS
  have nS : NNs n S := fun a ha => (hS a ha).1
  have sS : ∀ a ∈ S, a.sum ≤ 4 := fun a ha => (hS a ha).2
  walk_at "D"
  refine hN _ _ ?_; clear hN N
  refine seq fun N hN => ?_
  walk_at "D"
  refine ⟨_, S, n, rfl, rfl, h1, h4, nS, sS, by omega, fun H hH => ?_⟩
  have gH := hH.good nS sS
  refine hN _ _ ?_; clear hN N
  refine seq fun N hN => ?_
  walk_at "D"
  refine ⟨_, S, n, rfl, rfl, h1, h4, nS, (fun a ha => by have := sS a ha; omega), by omega, fun H2 hH2 => ?_⟩
  have eH := hull_uniq hH2 hH.1
  subst eH
  walk_at "D"
  simp only [qRevL]
  walk_at "D"
  rw [show (List.map DV.d (List.map UC.TI S)).reverse = List.map DV.d (List.map UC.TI S.reverse) by rw [← List.map_reverse, ← List.map_reverse]]
  walk_at "D"
  have hrev : ∀ x, x ∈ S.reverse ↔ x ∈ S := fun x => List.mem_reverse
  refine ⟨by rw [sizeL]; decide, _, S.reverse, n, rfl, rfl, h1, h4, (fun a ha => nS a ((hrev a).mp ha)), (fun a ha => by have := sS a ((hrev a).mp ha); omega), by rw [List.length_reverse]; omega, fun H3 hH3 => ?_⟩
  have eH := hull_uniq (hull_same hrev hH3) hH2
  subst eH
  walk_at "D"
  refine ⟨by rw [sizeL]; decide, ?_⟩
  refine hN _ _ ?_; clear hN N
  refine seq fun N hN => ?_
  have lH := gH.len h1 h4 (by decide)
  walk_at "D"
  refine ⟨by rw [sizeL]; omega, ?_⟩
  rw [List.map_map]
  refine comp_fmT _ (fun _ => false) (fun a => .d (TI a)) trivial _ _ ?_ ?_
  · intro a ha Q1 Q2 h
    walk_at "D"
    have hin : inL H3 a = true := (hull_in hH2 (nS a ha).1).mpr ⟨a, .of ha, divB_refl a⟩
    refine ⟨H3, a, n, rfl, by omega, by omega, gH.nn.len, (nS a ha).1, ?_⟩
    rw [hin]
    walk_at "D"
    exact h
  rw [List.nil_append, show S.filter (fun _ => false) = [] from List.filter_eq_nil_iff.mpr (by simp)]
  walk_at "D"
  refine ⟨Nat.zero_le _, ?_⟩
  refine hN _ _ ?_; clear hN N
  walk_at "D"
  refine ⟨m, n, H3, _, rfl, h1, h4, gH, by omega, D4, fun G2 s5 hG2 D5 _ => ?_⟩
  walk_at "D"
  refine ⟨m, n, 4, _, rfl, h1, by omega, by decide, by omega, D5, fun G3 s6 hG3 D6 _ => ?_⟩
  walk_at "D"
  refine ⟨by rw [sizeL]; decide, ?_⟩
  have gG3 : Good n 5 G3 := ⟨hG3.1, hG3.nns, fun a ha => by
    have h := sum_le (hG3.2.2 a ha)
    omega⟩
  have good : ∀ G ∈ [H3, G2, G3], Good n 5 G := fun G hG => by
    rcases List.mem_cons.mp hG with rfl | hG
    · exact gH.mono (by decide)
    rcases List.mem_cons.mp hG with rfl | hG
    · exact hG2
    rw [List.mem_singleton.mp hG]
    exact gG3
  refine for_byT (fun G : List (List Int) => DV.d (TT G)) (l := [H3, G2, G3]) (fun _ ε s => s = s6 ∧ ∃ y6, ε = [some (.d (.list (ns.map .int))), some (.d (.int k)), some (.r m), some (.d (.int n)), some (.d (LT S)), some (.d (TT H3)), y6, none, none]) ⟨rfl, _, rfl⟩ (fun _ _ _ _ => trivial) ?_ ?_
  · rintro j G ε s' hj ⟨rfl, y6, rfl⟩ R hR
    have gG := good G (List.mem_of_getElem? hj)
    walk_at "D"
    refine ⟨by rw [sizeL]; decide, G, n, rfl, h1, h4, gG, ?_⟩
    walk_at "D"
    exact hR _ _ ⟨rfl, _, rfl⟩
  · rintro ε s' ⟨rfl, y6, rfl⟩
    exact hL _ _ ⟨_, _, _, _, _, _, rfl⟩
end U
end
section
set_option Elab.async false
set_option linter.all false
set_option maxRecDepth 100000
set_option maxHeartbeats 4000000
namespace DL
open PySem L2 PyProof.Rows
end DL
end
section
set_option Elab.async false
set_option linter.all false
set_option maxRecDepth 100000
set_option maxHeartbeats 4000000
namespace DL
open PySem PySem.Spec L2 PyProof.Rows EX
end DL
end
section
set_option Elab.async false
set_option linter.all false
set_option maxRecDepth 100000
set_option maxHeartbeats 4000000
namespace DL
open PySem PySem.Spec L2 PyProof.Rows EX
end DL
end
section
set_option Elab.async false
set_option linter.all false
set_option maxRecDepth 100000
set_option maxHeartbeats 4000000
namespace DL
open PySem PySem.Spec PySem.W L2 PyProof.Rows EX
end DL
end
section
set_option Elab.async false
set_option linter.all false
set_option maxRecDepth 100000
set_option maxHeartbeats 2000000
namespace L2
open PySem PySem.Spec PyProof.Rows
section
variable {P : Program} {w : World} {K : PySem.W.Frag} {mg mb : Str → Option Value} {k : Nat} {fa a : Addr} {tb : List (Addr × Addr)} {fd : FuncData} {x : Str} {sp : Sp} {z : Shared} {vs : List Value} {ns : List Int}
/-- the tables' addresses -/
abbrev tabA (tb : List (Addr × Addr)) : List Addr := tb.map Prod.snd
/-- what is tracked as the law begins: its list, unless the written part has it, and the tables -/
def first (K : PySem.W.Frag) (a : Addr) (vs : List Value) (ns : List Int) (tb : List (Addr × Addr)) : Hp := fun b =>
  if b ∈ tabA tb then some (.tbl #[]) else if b = a ∧ K.lookup a = none then some (.frz { cls := .type "list", data := .seq vs.toArray } (.lst (ns.map V.int))) else none
end
end L2
namespace DL
open PySem PySem.Spec PySem.W L2 PyProof.Rows EX
end DL
end
section
set_option Elab.async false
set_option linter.all false
set_option pp.maxSteps 200
set_option maxRecDepth 100000
namespace GD
open PySem L2 DL RD
section
variable {P : Program} {w : World} {K : PySem.W.Frag} {mg : Str → Option Value} {base : Heap}
variable [tB : Tb] [gR : Gr]
def top (i : Nat) : Stmt := PySem.Challenge.pw_jointneeds_k84_stable_ideals.main.body.getD i (.Pass ⟨0, 0, 0, 0⟩)
structure Tx (mg : Str → Option Value) : Prop where
  b_any : mg "any" = none
  b_enumerate : mg "enumerate" = none
  b_int : mg "int" = none
  b_len : mg "len" = none
  b_list : mg "list" = none
  b_max : mg "max" = none
  b_range : mg "range" = none
  b_repr : mg "repr" = none
  b_set : mg "set" = none
  b_sorted : mg "sorted" = none
  b_sum : mg "sum" = none
  b_tuple : mg "tuple" = none
  b_zip : mg "zip" = none
  c_MOST_EXPONENT : ∃ t, mg "MOST_EXPONENT" = some (.int 60 t)
  c_MOST_GENERATORS : ∃ t, mg "MOST_GENERATORS" = some (.int 60 t)
abbrev s_law_begun : Stmt := top 23
abbrev N_law_begun : List Str := ["script", "k", "cells", "great", "seed", "cell"]
theorem S_law_begun : FnScope N_law_begun ["script", "k"] (defScope s_law_begun) := ⟨rfl, rfl, rfl, by decide +kernel, rfl, by decide +kernel, by decide +kernel⟩
theorem v_law_begun_0 : visB N_law_begun (defScope s_law_begun) 0 "script" = true := by decide +kernel
theorem v_law_begun_1 : visB N_law_begun (defScope s_law_begun) 1 "k" = true := by decide +kernel
theorem v_law_begun_2 : visB N_law_begun (defScope s_law_begun) 2 "cells" = true := by decide +kernel
theorem l_law_begun_2 : locB N_law_begun (defScope s_law_begun) (defScope s_law_begun) 2 "cells" = true := by decide +kernel
theorem v_law_begun_3 : visB N_law_begun (defScope s_law_begun) 3 "great" = true := by decide +kernel
theorem v_law_begun_4 : visB N_law_begun (defScope s_law_begun) 4 "seed" = true := by decide +kernel
theorem l_law_begun_4 : locB N_law_begun (defScope s_law_begun) (defScope s_law_begun) 4 "seed" = true := by decide +kernel
theorem v_law_begun_5 : visB N_law_begun (defScope s_law_begun) 5 "cell" = true := by decide +kernel
theorem l_law_begun_5 : locB N_law_begun (defScope s_law_begun) (defScope s_law_begun) 5 "cell" = true := by decide +kernel
theorem g_law_begun_int : glB (defScope s_law_begun) "int" = true := by decide +kernel
set_option maxHeartbeats 4000000 in
theorem d_law_begun  (T : Tx mg)  : ∀ X, Cok P w K mg base X N_law_begun (defScope s_law_begun) (defScope s_law_begun) 0 → DSs X (defBody s_law_begun) (rd_law_begun) := fun X c =>
  (ds_cons (ds_asg c (de_bin (op_qAdd false) (de_sl false (de_var c v_law_begun_0) (do_some (de_var c v_law_begun_1)) do_none) (de_sl false (de_var c v_law_begun_0) do_none (do_some (de_var c v_law_begun_1)))) (dg_name c l_law_begun_2) rfl rfl)
  (ds_cons (ds_setLc (i := 3) false [("cell", 5)] c (by decide +kernel) (by kernel_rfl) (by decide +kernel) (by decide) (di_seq (de_var c v_law_begun_2)) (fun _ c1 => (dg_name c1 (by decide +kernel))) (fun _ c1 => (dts_one (dt_cp op_qGe rfl (de_var c1 (by decide +kernel)) (de_bin op_qPow de_int de_int)))) (fun _ c1 => (de_var c1 (by decide +kernel))))
  (ds_cons (ds_asg c (de_bin (op_qAdd false) de_int (de_var c v_law_begun_1)) (dg_name c l_law_begun_4) rfl rfl)
  (ds_cons (ds_for c (di_seq (de_var c v_law_begun_2)) (dg_name c l_law_begun_5) (ds_one (ds_asg c (de_bin op_qMod (de_ct c g_law_begun_int T.b_int bt_int c_int (da_cons (de_bin (op_qAdd false) (de_bin (op_qMul false) (de_var c v_law_begun_4) de_int) (de_var c v_law_begun_5)) da_nil)) de_int) (dg_name c l_law_begun_4) rfl rfl)))
  (ds_one (ds_ret (de_disp (dps_cons (de_if (dt_cp (op_qNe c.hu64) rfl (de_var c v_law_begun_3) (de_lst false da_nil)) (de_ix (de_var c v_law_begun_3) de_int (fun _ _ => rfl)) de_int) (dps_cons (de_var c v_law_begun_4) (dps_cons (de_bin (op_qAdd false) (de_var c v_law_begun_2) (de_lst false (da_cons (de_bin (op_qAdd false) (de_bin (op_qMul false) de_int (de_var c v_law_begun_1)) de_int) da_nil))) (dps_cons de_int dps_nil)))) rfl rfl (fun z => by cases z) (by decide))))))))
theorem o_law_begun  (T : Tx mg)  {f : Addr} {fd : FuncData} {sp : SpD} (Fu : Fun K "_law_begun" "_law_begun" s_law_begun f fd) (hm : mg "_law_begun" = some (.ref f)) (len : ∀ xs st Q, sp xs st Q → xs.length = 2) (sem : ∀ xs st Q, sp xs st Q → rd_law_begun { nx := fun _ st' => Fg Q (.d .none) st', rt := Fg Q } (startD 6 xs) st) : Cl P w K mg base "_law_begun" 1 sp :=
  ⟨f, fd, ["script", "k"], hm, Fu.kp, fn_ok Fu S_law_begun len (d_law_begun T ) sem, Fu.binds fun _ _ _ _ _ _ us hl => match us, hl with | [_, _], _ => rfl⟩
abbrev s_law_divides : Stmt := top 25
abbrev N_law_divides : List Str := ["a", "b", "k"]
theorem S_law_divides : FnScope N_law_divides ["a", "b"] (defScope s_law_divides) := ⟨rfl, rfl, rfl, by decide +kernel, rfl, by decide +kernel, by decide +kernel⟩
theorem v_law_divides_0 : visB N_law_divides (defScope s_law_divides) 0 "a" = true := by decide +kernel
theorem g_law_divides_len : glB (defScope s_law_divides) "len" = true := by decide +kernel
theorem g_law_divides_range : glB (defScope s_law_divides) "range" = true := by decide +kernel
set_option maxHeartbeats 4000000 in
theorem d_law_divides  (T : Tx mg)  : ∀ X, Cok P w K mg base X N_law_divides (defScope s_law_divides) (defScope s_law_divides) 0 → DSs X (defBody s_law_divides) (rd_law_divides) := fun X c =>
  (ds_one (ds_ret (de_cp (op_qEq c.hu64) rfl (de_lc false [("k", 2)] c (by decide +kernel) (by decide) (di_rng1 c g_law_divides_range T.b_range (da_cons (de_cb c g_law_divides_len T.b_len bb_len c_len (da_cons (de_var c v_law_divides_0) da_nil)) da_nil)) (fun _ c1 => (dg_name c1 (by decide +kernel))) (fun _ c1 => (dts_one (dt_cp op_qGt rfl (de_ix (de_var c1 (by decide +kernel)) (de_var c1 (by decide +kernel)) (fun _ _ => rfl)) (de_ix (de_var c1 (by decide +kernel)) (de_var c1 (by decide +kernel)) (fun _ _ => rfl))))) (fun _ c1 => (de_var c1 (by decide +kernel)))) (de_lst false da_nil))))
theorem o_law_divides  (T : Tx mg)  {f : Addr} {fd : FuncData} {sp : SpD} (Fu : Fun K "_law_divides" "_law_divides" s_law_divides f fd) (hm : mg "_law_divides" = some (.ref f)) (len : ∀ xs st Q, sp xs st Q → xs.length = 2) (sem : ∀ xs st Q, sp xs st Q → rd_law_divides { nx := fun _ st' => Fg Q (.d .none) st', rt := Fg Q } (startD 3 xs) st) : Cl P w K mg base "_law_divides" 1 sp :=
  ⟨f, fd, ["a", "b"], hm, Fu.kp, fn_ok Fu S_law_divides len (d_law_divides T ) sem, Fu.binds fun _ _ _ _ _ _ us hl => match us, hl with | [_, _], _ => rfl⟩
abbrev s_law_least : Stmt := top 26
abbrev N_law_least : List Str := ["monomials", "some", "a", "b"]
theorem S_law_least : FnScope N_law_least ["monomials"] (defScope s_law_least) := ⟨rfl, rfl, rfl, by decide +kernel, rfl, by decide +kernel, by decide +kernel⟩
theorem v_law_least_0 : visB N_law_least (defScope s_law_least) 0 "monomials" = true := by decide +kernel
theorem v_law_least_1 : visB N_law_least (defScope s_law_least) 1 "some" = true := by decide +kernel
theorem l_law_least_1 : locB N_law_least (defScope s_law_least) (defScope s_law_least) 1 "some" = true := by decide +kernel
theorem g_law_least_sorted : glB (defScope s_law_least) "sorted" = true := by decide +kernel
theorem g_law_least_set : glB (defScope s_law_least) "set" = true := by decide +kernel
theorem g_law_least_tuple : glB (defScope s_law_least) "tuple" = true := by decide +kernel
set_option maxHeartbeats 4000000 in
theorem d_law_least {sp_law_divides : SpD} (T : Tx mg) (C_law_divides : Cl P w K mg base "_law_divides" 1 sp_law_divides) : ∀ X, Cok P w K mg base X N_law_least (defScope s_law_least) (defScope s_law_least) 1 → DSs X (defBody s_law_least) (rd_law_least sp_law_divides) := fun X c =>
  (ds_cons (ds_asg c (BS.de_sortB false c g_law_least_sorted T.b_sorted g_law_least_set T.b_set (de_var c v_law_least_0)) (dg_name c l_law_least_1) rfl rfl)
  (ds_one (ds_ret (de_ct c g_law_least_tuple T.b_tuple bt_tuple c_tuple (da_cons (de_lc false [("a", 2)] c (by decide +kernel) (by decide) (di_seq (de_var c v_law_least_1)) (fun _ c1 => (dg_name c1 (by decide +kernel))) (fun _ c1 => (dts_one (dt_cp (op_qEq c1.hu64) rfl (de_lc false [("b", 3)] c1 (by decide +kernel) (by decide) (di_seq (de_var c1 (by decide +kernel))) (fun _ c2 => (dg_name c2 (by decide +kernel))) (fun _ c2 => (dts_one (DW.pt (dw_and (dt_cp (op_qNe c2.hu64) rfl (de_var c2 (by decide +kernel)) (de_var c2 (by decide +kernel))) (dw_and1 (dt_val (de_callC c2 (by decide +kernel) C_law_divides (by decide) (da_cons (de_var c2 (by decide +kernel)) (da_cons (de_var c2 (by decide +kernel)) da_nil))))))))) (fun _ c2 => (de_var c2 (by decide +kernel)))) (de_lst false da_nil)))) (fun _ c1 => (de_var c1 (by decide +kernel)))) da_nil)))))
theorem o_law_least {sp_law_divides : SpD} (T : Tx mg) (C_law_divides : Cl P w K mg base "_law_divides" 1 sp_law_divides) {f : Addr} {fd : FuncData} {sp : SpD} (Fu : Fun K "_law_least" "_law_least" s_law_least f fd) (hm : mg "_law_least" = some (.ref f)) (len : ∀ xs st Q, sp xs st Q → xs.length = 1) (sem : ∀ xs st Q, sp xs st Q → rd_law_least sp_law_divides { nx := fun _ st' => Fg Q (.d .none) st', rt := Fg Q } (startD 4 xs) st) : Cl P w K mg base "_law_least" 2 sp :=
  ⟨f, fd, ["monomials"], hm, Fu.kp, fn_ok Fu S_law_least len (d_law_least T C_law_divides) sem, Fu.binds fun _ _ _ _ _ _ us hl => match us, hl with | [_], _ => rfl⟩
abbrev s_law_moved : Stmt := top 31
abbrev N_law_moved : List Str := ["a", "m", "j", "k"]
theorem S_law_moved : FnScope N_law_moved ["a", "m", "j"] (defScope s_law_moved) := ⟨rfl, rfl, rfl, by decide +kernel, rfl, by decide +kernel, by decide +kernel⟩
theorem v_law_moved_0 : visB N_law_moved (defScope s_law_moved) 0 "a" = true := by decide +kernel
theorem g_law_moved_len : glB (defScope s_law_moved) "len" = true := by decide +kernel
theorem g_law_moved_range : glB (defScope s_law_moved) "range" = true := by decide +kernel
theorem g_law_moved_tuple : glB (defScope s_law_moved) "tuple" = true := by decide +kernel
set_option maxHeartbeats 4000000 in
theorem d_law_moved  (T : Tx mg)  : ∀ X, Cok P w K mg base X N_law_moved (defScope s_law_moved) (defScope s_law_moved) 0 → DSs X (defBody s_law_moved) (rd_law_moved) := fun X c =>
  (ds_one (ds_ret (de_ct c g_law_moved_tuple T.b_tuple bt_tuple c_tuple (da_cons (de_lc false [("k", 3)] c (by decide +kernel) (by decide) (di_rng1 c g_law_moved_range T.b_range (da_cons (de_cb c g_law_moved_len T.b_len bb_len c_len (da_cons (de_var c v_law_moved_0) da_nil)) da_nil)) (fun _ c1 => (dg_name c1 (by decide +kernel))) (fun _ c1 => dts_nil) (fun _ c1 => (de_bin (op_qAdd false) (de_bin op_qSub (de_ix (de_var c1 (by decide +kernel)) (de_var c1 (by decide +kernel)) (fun _ _ => rfl)) (de_if (dt_cp (op_qEq c1.hu64) rfl (de_var c1 (by decide +kernel)) (de_var c1 (by decide +kernel))) de_int de_int)) (de_if (dt_cp (op_qEq c1.hu64) rfl (de_var c1 (by decide +kernel)) (de_var c1 (by decide +kernel))) de_int de_int)))) da_nil))))
theorem o_law_moved  (T : Tx mg)  {f : Addr} {fd : FuncData} {sp : SpD} (Fu : Fun K "_law_moved" "_law_moved" s_law_moved f fd) (hm : mg "_law_moved" = some (.ref f)) (len : ∀ xs st Q, sp xs st Q → xs.length = 3) (sem : ∀ xs st Q, sp xs st Q → rd_law_moved { nx := fun _ st' => Fg Q (.d .none) st', rt := Fg Q } (startD 4 xs) st) : Cl P w K mg base "_law_moved" 1 sp :=
  ⟨f, fd, ["a", "m", "j"], hm, Fu.kp, fn_ok Fu S_law_moved len (d_law_moved T ) sem, Fu.binds fun _ _ _ _ _ _ us hl => match us, hl with | [_, _, _], _ => rfl⟩
abbrev s_law_hull : Stmt := top 34
abbrev N_law_hull : List Str := ["monomials", "found", "at", "a", "m", "b", "j"]
theorem S_law_hull : FnScope N_law_hull ["monomials"] (defScope s_law_hull) := ⟨rfl, rfl, rfl, by decide +kernel, rfl, by decide +kernel, by decide +kernel⟩
theorem v_law_hull_0 : visB N_law_hull (defScope s_law_hull) 0 "monomials" = true := by decide +kernel
theorem v_law_hull_1 : visB N_law_hull (defScope s_law_hull) 1 "found" = true := by decide +kernel
theorem l_law_hull_1 : locB N_law_hull (defScope s_law_hull) (defScope s_law_hull) 1 "found" = true := by decide +kernel
theorem v_law_hull_2 : visB N_law_hull (defScope s_law_hull) 2 "at" = true := by decide +kernel
theorem l_law_hull_2 : locB N_law_hull (defScope s_law_hull) (defScope s_law_hull) 2 "at" = true := by decide +kernel
theorem v_law_hull_3 : visB N_law_hull (defScope s_law_hull) 3 "a" = true := by decide +kernel
theorem l_law_hull_3 : locB N_law_hull (defScope s_law_hull) (defScope s_law_hull) 3 "a" = true := by decide +kernel
theorem v_law_hull_4 : visB N_law_hull (defScope s_law_hull) 4 "m" = true := by decide +kernel
theorem l_law_hull_4 : locB N_law_hull (defScope s_law_hull) (defScope s_law_hull) 4 "m" = true := by decide +kernel
theorem g_law_hull_list : glB (defScope s_law_hull) "list" = true := by decide +kernel
theorem g_law_hull_range : glB (defScope s_law_hull) "range" = true := by decide +kernel
theorem g_law_hull_len : glB (defScope s_law_hull) "len" = true := by decide +kernel
theorem g_law_hull_law_least : glB (defScope s_law_hull) "_law_least" = true := by decide +kernel
set_option maxHeartbeats 4000000 in
theorem d_law_hull {sp_law_moved : SpD} {sp_law_least : SpD} (T : Tx mg) (C_law_moved : Cl P w K mg base "_law_moved" 1 sp_law_moved) (C_law_least : Cl P w K mg base "_law_least" 2 sp_law_least) : ∀ X, Cok P w K mg base X N_law_hull (defScope s_law_hull) (defScope s_law_hull) 2 → DSs X (defBody s_law_hull) (rd_law_hull sp_law_moved sp_law_least) := fun X c =>
  (ds_cons (ds_asg c (de_ct c g_law_hull_list T.b_list bt_list (c_list true) (da_cons (de_var c v_law_hull_0) da_nil)) (dg_name c l_law_hull_1) rfl rfl)
  (ds_cons (ds_for c (di_rng1 c g_law_hull_range T.b_range (da_cons de_int da_nil)) (dg_name c l_law_hull_2) (ds_one (ds_if (dt_cp (op_qLt c.hu0) rfl (de_var c v_law_hull_2) (de_cb c g_law_hull_len T.b_len bb_len c_len (da_cons (de_var c v_law_hull_1) da_nil))) (ds_cons (ds_asg c (de_ix (de_var c v_law_hull_1) (de_var c v_law_hull_2) (fun _ _ => rfl)) (dg_name c l_law_hull_3) rfl rfl)
          (ds_one (ds_for c (di_rng1 c g_law_hull_range T.b_range (da_cons (de_cb c g_law_hull_len T.b_len bb_len c_len (da_cons (de_var c v_law_hull_3) da_nil)) da_nil)) (dg_name c l_law_hull_4) (ds_one (ds_if (dt_cp op_qGt rfl (de_ix (de_var c v_law_hull_3) (de_var c v_law_hull_4) (fun _ _ => rfl)) de_int) (ds_one (ds_expr (de_extend (de_var c v_law_hull_1) (de_lc false [("b", 5)] c (by decide +kernel) (by decide) (di_seq (de_lc false [("j", 6)] c (by decide +kernel) (by decide) (di_rng1 c g_law_hull_range T.b_range (da_cons (de_var c v_law_hull_4) da_nil)) (fun _ c1 => (dg_name c1 (by decide +kernel))) (fun _ c1 => dts_nil) (fun _ c1 => (de_callC c1 (by decide +kernel) C_law_moved (by decide) (da_cons (de_var c1 (by decide +kernel)) (da_cons (de_var c1 (by decide +kernel)) (da_cons (de_var c1 (by decide +kernel)) da_nil))))))) (fun _ c1 => (dg_name c1 (by decide +kernel))) (fun _ c1 => (dts_one (dt_cp (op_qNotIn c1.hu65) rfl (de_var c1 (by decide +kernel)) (de_var c1 (by decide +kernel))))) (fun _ c1 => (de_var c1 (by decide +kernel))))))) ds_nil))))) ds_nil)))
  (ds_one (ds_ret (de_callC c g_law_hull_law_least C_law_least (by decide) (da_cons (de_var c v_law_hull_1) da_nil))))))
theorem o_law_hull {sp_law_moved : SpD} {sp_law_least : SpD} (T : Tx mg) (C_law_moved : Cl P w K mg base "_law_moved" 1 sp_law_moved) (C_law_least : Cl P w K mg base "_law_least" 2 sp_law_least) {f : Addr} {fd : FuncData} {sp : SpD} (Fu : Fun K "_law_hull" "_law_hull" s_law_hull f fd) (hm : mg "_law_hull" = some (.ref f)) (len : ∀ xs st Q, sp xs st Q → xs.length = 1) (sem : ∀ xs st Q, sp xs st Q → rd_law_hull sp_law_moved sp_law_least { nx := fun _ st' => Fg Q (.d .none) st', rt := Fg Q } (startD 7 xs) st) : Cl P w K mg base "_law_hull" 3 sp :=
  ⟨f, fd, ["monomials"], hm, Fu.kp, fn_ok Fu S_law_hull len (d_law_hull T C_law_moved C_law_least) sem, Fu.binds fun _ _ _ _ _ _ us hl => match us, hl with | [_], _ => rfl⟩
abbrev s_law_draw : Stmt := top 24
abbrev N_law_draw : List Str := ["m", "below", "found", "spot", "cells", "extra", "cell", "blend"]
theorem S_law_draw : FnScope N_law_draw ["m", "below"] (defScope s_law_draw) := ⟨rfl, rfl, rfl, by decide +kernel, rfl, by decide +kernel, by decide +kernel⟩
theorem v_law_draw_0 : visB N_law_draw (defScope s_law_draw) 0 "m" = true := by decide +kernel
theorem v_law_draw_1 : visB N_law_draw (defScope s_law_draw) 1 "below" = true := by decide +kernel
theorem v_law_draw_2 : visB N_law_draw (defScope s_law_draw) 2 "found" = true := by decide +kernel
theorem l_law_draw_2 : locB N_law_draw (defScope s_law_draw) (defScope s_law_draw) 2 "found" = true := by decide +kernel
theorem v_law_draw_3 : visB N_law_draw (defScope s_law_draw) 3 "spot" = true := by decide +kernel
theorem l_law_draw_3 : locB N_law_draw (defScope s_law_draw) (defScope s_law_draw) 3 "spot" = true := by decide +kernel
theorem v_law_draw_4 : visB N_law_draw (defScope s_law_draw) 4 "cells" = true := by decide +kernel
theorem v_law_draw_5 : visB N_law_draw (defScope s_law_draw) 5 "extra" = true := by decide +kernel
theorem v_law_draw_6 : visB N_law_draw (defScope s_law_draw) 6 "cell" = true := by decide +kernel
theorem l_law_draw_6 : locB N_law_draw (defScope s_law_draw) (defScope s_law_draw) 6 "cell" = true := by decide +kernel
theorem v_law_draw_7 : visB N_law_draw (defScope s_law_draw) 7 "blend" = true := by decide +kernel
theorem l_law_draw_7 : locB N_law_draw (defScope s_law_draw) (defScope s_law_draw) 7 "blend" = true := by decide +kernel
theorem g_law_draw_int : glB (defScope s_law_draw) "int" = true := by decide +kernel
theorem g_law_draw_len : glB (defScope s_law_draw) "len" = true := by decide +kernel
set_option maxHeartbeats 4000000 in
theorem d_law_draw  (T : Tx mg)  : ∀ X, Cok P w K mg base X N_law_draw (defScope s_law_draw) (defScope s_law_draw) 0 → DSs X (defBody s_law_draw) (rd_law_draw) := fun X c =>
  (ds_cons (ds_if (dt_cp op_qGt rfl (de_dget c (de_var c v_law_draw_0) de_str (fun _ _ => rfl)) de_int) (ds_cons (ds_asg c (de_bin op_qMod (de_ct c g_law_draw_int T.b_int bt_int c_int (da_cons (de_dget c (de_var c v_law_draw_0) de_str (fun _ _ => rfl)) da_nil)) (de_var c v_law_draw_1)) (dg_name c l_law_draw_2) rfl rfl)
      (ds_cons (ds_dput c (de_var c v_law_draw_0) de_str (de_bin op_qFdiv (de_dget c (de_var c v_law_draw_0) de_str (fun _ _ => rfl)) (de_var c v_law_draw_1)) rfl)
      (ds_one (ds_ret (de_var c v_law_draw_2))))) ds_nil)
  (ds_cons (ds_asg c (de_dget c (de_var c v_law_draw_0) de_str (fun _ _ => rfl)) (dg_name c l_law_draw_3) rfl rfl)
  (ds_cons (ds_dput c (de_var c v_law_draw_0) de_str (de_bin (op_qAdd false) (de_var c v_law_draw_3) de_int) rfl)
  (ds_cons (ds_par (i := 4) (j := 5) c (by decide +kernel) (da_cons (de_dget c (de_var c v_law_draw_0) de_str (fun _ _ => rfl)) (da_cons (de_bin (op_qAdd false) (de_dget c (de_var c v_law_draw_0) de_str (fun _ _ => rfl)) (de_bin (op_qMul false) (de_bin (op_qMul false) de_int (de_var c v_law_draw_3)) (de_var c v_law_draw_3))) da_nil)) (by kernel_rfl))
  (ds_cons (ds_asg c (de_ix (de_var c v_law_draw_4) (de_bin op_qMod (de_ct c g_law_draw_int T.b_int bt_int c_int (da_cons (de_var c v_law_draw_3) da_nil)) (de_cb c g_law_draw_len T.b_len bb_len c_len (da_cons (de_var c v_law_draw_4) da_nil))) (fun _ _ => rfl)) (dg_name c l_law_draw_6) rfl rfl)
  (ds_cons (ds_asg c (de_bin op_qMod (de_ct c g_law_draw_int T.b_int bt_int c_int (da_cons (de_bin (op_qAdd false) (de_bin (op_qMul false) (de_var c v_law_draw_6) (de_bin (op_qAdd false) (de_bin (op_qMul false) de_int (de_var c v_law_draw_3)) de_int)) (de_var c v_law_draw_5)) da_nil)) de_int) (dg_name c l_law_draw_7) rfl rfl)
  (ds_cons (ds_asg c (de_bin op_qMod (de_ct c g_law_draw_int T.b_int bt_int c_int (da_cons (de_bin (op_qAdd false) (de_bin (op_qAdd false) (de_bin (op_qMul false) (de_var c v_law_draw_7) (de_var c v_law_draw_7)) (de_bin (op_qMul false) de_int (de_var c v_law_draw_3))) (de_dget c (de_var c v_law_draw_0) de_str (fun _ _ => rfl))) da_nil)) de_int) (dg_name c l_law_draw_7) rfl rfl)
  (ds_one (ds_ret (de_bin op_qMod (de_bin op_qFdiv (de_bin op_qMod (de_ct c g_law_draw_int T.b_int bt_int c_int (da_cons (de_bin (op_qAdd false) (de_bin (op_qMul false) (de_var c v_law_draw_7) de_int) (de_var c v_law_draw_3)) da_nil)) de_int) de_int) (de_var c v_law_draw_1)))))))))))
theorem o_law_draw  (T : Tx mg)  {f : Addr} {fd : FuncData} {sp : SpD} (Fu : Fun K "_law_draw" "_law_draw" s_law_draw f fd) (hm : mg "_law_draw" = some (.ref f)) (len : ∀ xs st Q, sp xs st Q → xs.length = 2) (sem : ∀ xs st Q, sp xs st Q → rd_law_draw { nx := fun _ st' => Fg Q (.d .none) st', rt := Fg Q } (startD 8 xs) st) : Cl P w K mg base "_law_draw" 1 sp :=
  ⟨f, fd, ["m", "below"], hm, Fu.kp, fn_ok Fu S_law_draw len (d_law_draw T ) sem, Fu.binds fun _ _ _ _ _ _ us hl => match us, hl with | [_, _], _ => rfl⟩
abbrev s_law_monomial : Stmt := top 28
abbrev N_law_monomial : List Str := ["m", "n", "top", "k"]
theorem S_law_monomial : FnScope N_law_monomial ["m", "n", "top"] (defScope s_law_monomial) := ⟨rfl, rfl, rfl, by decide +kernel, rfl, by decide +kernel, by decide +kernel⟩
theorem v_law_monomial_1 : visB N_law_monomial (defScope s_law_monomial) 1 "n" = true := by decide +kernel
theorem g_law_monomial_range : glB (defScope s_law_monomial) "range" = true := by decide +kernel
theorem g_law_monomial_tuple : glB (defScope s_law_monomial) "tuple" = true := by decide +kernel
set_option maxHeartbeats 4000000 in
theorem d_law_monomial {sp_law_draw : SpD} (T : Tx mg) (C_law_draw : Cl P w K mg base "_law_draw" 1 sp_law_draw) : ∀ X, Cok P w K mg base X N_law_monomial (defScope s_law_monomial) (defScope s_law_monomial) 1 → DSs X (defBody s_law_monomial) (rd_law_monomial sp_law_draw) := fun X c =>
  (ds_one (ds_ret (de_ct c g_law_monomial_tuple T.b_tuple bt_tuple c_tuple (da_cons (de_lc false [("k", 3)] c (by decide +kernel) (by decide) (di_rng1 c g_law_monomial_range T.b_range (da_cons (de_var c v_law_monomial_1) da_nil)) (fun _ c1 => (dg_name c1 (by decide +kernel))) (fun _ c1 => dts_nil) (fun _ c1 => (de_if (dt_cp op_qGt rfl (de_callC c1 (by decide +kernel) C_law_draw (by decide) (da_cons (de_var c1 (by decide +kernel)) (da_cons de_int da_nil))) de_int) (de_callC c1 (by decide +kernel) C_law_draw (by decide) (da_cons (de_var c1 (by decide +kernel)) (da_cons (de_bin (op_qAdd false) (de_var c1 (by decide +kernel)) de_int) da_nil))) de_int))) da_nil))))
theorem o_law_monomial {sp_law_draw : SpD} (T : Tx mg) (C_law_draw : Cl P w K mg base "_law_draw" 1 sp_law_draw) {f : Addr} {fd : FuncData} {sp : SpD} (Fu : Fun K "_law_monomial" "_law_monomial" s_law_monomial f fd) (hm : mg "_law_monomial" = some (.ref f)) (len : ∀ xs st Q, sp xs st Q → xs.length = 3) (sem : ∀ xs st Q, sp xs st Q → rd_law_monomial sp_law_draw { nx := fun _ st' => Fg Q (.d .none) st', rt := Fg Q } (startD 4 xs) st) : Cl P w K mg base "_law_monomial" 2 sp :=
  ⟨f, fd, ["m", "n", "top"], hm, Fu.kp, fn_ok Fu S_law_monomial len (d_law_monomial T C_law_draw) sem, Fu.binds fun _ _ _ _ _ _ us hl => match us, hl with | [_, _, _], _ => rfl⟩
abbrev s_law_bent : Stmt := top 35
abbrev N_law_bent : List Str := ["m", "generators", "k", "a", "spot", "more"]
theorem S_law_bent : FnScope N_law_bent ["m", "generators"] (defScope s_law_bent) := ⟨rfl, rfl, rfl, by decide +kernel, rfl, by decide +kernel, by decide +kernel⟩
theorem v_law_bent_0 : visB N_law_bent (defScope s_law_bent) 0 "m" = true := by decide +kernel
theorem v_law_bent_1 : visB N_law_bent (defScope s_law_bent) 1 "generators" = true := by decide +kernel
theorem v_law_bent_2 : visB N_law_bent (defScope s_law_bent) 2 "k" = true := by decide +kernel
theorem l_law_bent_2 : locB N_law_bent (defScope s_law_bent) (defScope s_law_bent) 2 "k" = true := by decide +kernel
theorem v_law_bent_3 : visB N_law_bent (defScope s_law_bent) 3 "a" = true := by decide +kernel
theorem l_law_bent_3 : locB N_law_bent (defScope s_law_bent) (defScope s_law_bent) 3 "a" = true := by decide +kernel
theorem v_law_bent_4 : visB N_law_bent (defScope s_law_bent) 4 "spot" = true := by decide +kernel
theorem l_law_bent_4 : locB N_law_bent (defScope s_law_bent) (defScope s_law_bent) 4 "spot" = true := by decide +kernel
theorem v_law_bent_5 : visB N_law_bent (defScope s_law_bent) 5 "more" = true := by decide +kernel
theorem l_law_bent_5 : locB N_law_bent (defScope s_law_bent) (defScope s_law_bent) 5 "more" = true := by decide +kernel
theorem g_law_bent_len : glB (defScope s_law_bent) "len" = true := by decide +kernel
theorem g_law_bent_law_draw : glB (defScope s_law_bent) "_law_draw" = true := by decide +kernel
theorem g_law_bent_list : glB (defScope s_law_bent) "list" = true := by decide +kernel
theorem g_law_bent_law_least : glB (defScope s_law_bent) "_law_least" = true := by decide +kernel
set_option maxHeartbeats 4000000 in
theorem d_law_bent {sp_law_draw : SpD} {sp_law_least : SpD} (T : Tx mg) (C_law_draw : Cl P w K mg base "_law_draw" 1 sp_law_draw) (C_law_least : Cl P w K mg base "_law_least" 2 sp_law_least) : ∀ X, Cok P w K mg base X N_law_bent (defScope s_law_bent) (defScope s_law_bent) 2 → DSs X (defBody s_law_bent) (rd_law_bent sp_law_draw sp_law_least) := fun X c =>
  (ds_cons (ds_if (dt_cp (op_qEq c.hu64) rfl (de_var c v_law_bent_1) (de_tup da_nil)) (ds_one (ds_ret (de_tup da_nil))) ds_nil)
  (ds_cons (ds_asg c (de_callC c g_law_bent_law_draw C_law_draw (by decide) (da_cons (de_var c v_law_bent_0) (da_cons (de_cb c g_law_bent_len T.b_len bb_len c_len (da_cons (de_var c v_law_bent_1) da_nil)) da_nil))) (dg_name c l_law_bent_2) rfl rfl)
  (ds_cons (ds_asg c (de_ix (de_var c v_law_bent_1) (de_var c v_law_bent_2) (fun _ _ => rfl)) (dg_name c l_law_bent_3) rfl rfl)
  (ds_cons (ds_asg c (de_callC c g_law_bent_law_draw C_law_draw (by decide) (da_cons (de_var c v_law_bent_0) (da_cons (de_cb c g_law_bent_len T.b_len bb_len c_len (da_cons (de_var c v_law_bent_3) da_nil)) da_nil))) (dg_name c l_law_bent_4) rfl rfl)
  (ds_cons (ds_asg c (de_if (dt_cp (op_qEq c.hu64) rfl (de_callC c g_law_bent_law_draw C_law_draw (by decide) (da_cons (de_var c v_law_bent_0) (da_cons de_int da_nil))) de_int) (de_lst false da_nil) (de_lst false (da_cons (de_bin (op_qAdd false) (de_bin (op_qAdd false) (de_sl false (de_var c v_law_bent_3) do_none (do_some (de_var c v_law_bent_4))) (de_tup (da_cons (de_bin (op_qAdd false) (de_ix (de_var c v_law_bent_3) (de_var c v_law_bent_4) (fun _ _ => rfl)) de_int) da_nil))) (de_sl false (de_var c v_law_bent_3) (do_some (de_bin (op_qAdd false) (de_var c v_law_bent_4) de_int)) do_none)) da_nil))) (dg_name c l_law_bent_5) rfl rfl)
  (ds_one (ds_ret (de_callC c g_law_bent_law_least C_law_least (by decide) (da_cons (de_bin (op_qAdd false) (de_bin (op_qAdd false) (de_ct c g_law_bent_list T.b_list bt_list (c_list false) (da_cons (de_sl false (de_var c v_law_bent_1) do_none (do_some (de_var c v_law_bent_2))) da_nil)) (de_ct c g_law_bent_list T.b_list bt_list (c_list false) (da_cons (de_sl false (de_var c v_law_bent_1) (do_some (de_bin (op_qAdd false) (de_var c v_law_bent_2) de_int)) do_none) da_nil))) (de_var c v_law_bent_5)) da_nil)))))))))
theorem o_law_bent {sp_law_draw : SpD} {sp_law_least : SpD} (T : Tx mg) (C_law_draw : Cl P w K mg base "_law_draw" 1 sp_law_draw) (C_law_least : Cl P w K mg base "_law_least" 2 sp_law_least) {f : Addr} {fd : FuncData} {sp : SpD} (Fu : Fun K "_law_bent" "_law_bent" s_law_bent f fd) (hm : mg "_law_bent" = some (.ref f)) (len : ∀ xs st Q, sp xs st Q → xs.length = 2) (sem : ∀ xs st Q, sp xs st Q → rd_law_bent sp_law_draw sp_law_least { nx := fun _ st' => Fg Q (.d .none) st', rt := Fg Q } (startD 6 xs) st) : Cl P w K mg base "_law_bent" 3 sp :=
  ⟨f, fd, ["m", "generators"], hm, Fu.kp, fn_ok Fu S_law_bent len (d_law_bent T C_law_draw C_law_least) sem, Fu.binds fun _ _ _ _ _ _ us hl => match us, hl with | [_, _], _ => rfl⟩
abbrev s_divides : Stmt := top 7
abbrev N_divides : List Str := ["a", "b", "one", "other"]
theorem S_divides : FnScope N_divides ["a", "b"] (defScope s_divides) := ⟨rfl, rfl, rfl, by decide +kernel, rfl, by decide +kernel, by decide +kernel⟩
theorem v_divides_0 : visB N_divides (defScope s_divides) 0 "a" = true := by decide +kernel
theorem v_divides_1 : visB N_divides (defScope s_divides) 1 "b" = true := by decide +kernel
theorem v_divides_2 : visB N_divides (defScope s_divides) 2 "one" = true := by decide +kernel
theorem l_divides_2 : locB N_divides (defScope s_divides) (defScope s_divides) 2 "one" = true := by decide +kernel
theorem v_divides_3 : visB N_divides (defScope s_divides) 3 "other" = true := by decide +kernel
theorem l_divides_3 : locB N_divides (defScope s_divides) (defScope s_divides) 3 "other" = true := by decide +kernel
theorem g_divides_zip : glB (defScope s_divides) "zip" = true := by decide +kernel
set_option maxHeartbeats 4000000 in
theorem d_divides  (T : Tx mg)  : ∀ X, Cok P w K mg base X N_divides (defScope s_divides) (defScope s_divides) 0 → DSs X (defBody s_divides) (rd_divides) := fun X c =>
  (ds_cons (ds_for c (di_zip c g_divides_zip T.b_zip (da_cons (de_var c v_divides_0) (da_cons (de_var c v_divides_1) da_nil))) (dg_tup c (dgs_cons (dg_name c l_divides_2) (dgs_cons (dg_name c l_divides_3) dgs_nil))) (ds_one (ds_if (dt_cp op_qGt rfl (de_var c v_divides_2) (de_var c v_divides_3)) (ds_one (ds_ret de_bl)) ds_nil)))
  (ds_one (ds_ret de_bl)))
theorem o_divides  (T : Tx mg)  {f : Addr} {fd : FuncData} {sp : SpD} (Fu : Fun K "divides" "divides" s_divides f fd) (hm : mg "divides" = some (.ref f)) (len : ∀ xs st Q, sp xs st Q → xs.length = 2) (sem : ∀ xs st Q, sp xs st Q → rd_divides { nx := fun _ st' => Fg Q (.d .none) st', rt := Fg Q } (startD 4 xs) st) : Cl P w K mg base "divides" 1 sp :=
  ⟨f, fd, ["a", "b"], hm, Fu.kp, fn_ok Fu S_divides len (d_divides T ) sem, Fu.binds fun _ _ _ _ _ _ us hl => match us, hl with | [_, _], _ => rfl⟩
abbrev s_least_ones : Stmt := top 11
abbrev N_least_ones : List Str := ["monomials", "found", "monomial", "other"]
theorem S_least_ones : FnScope N_least_ones ["monomials"] (defScope s_least_ones) := ⟨rfl, rfl, rfl, by decide +kernel, rfl, by decide +kernel, by decide +kernel⟩
theorem v_least_ones_0 : visB N_least_ones (defScope s_least_ones) 0 "monomials" = true := by decide +kernel
theorem v_least_ones_1 : visB N_least_ones (defScope s_least_ones) 1 "found" = true := by decide +kernel
theorem l_least_ones_1 : locB N_least_ones (defScope s_least_ones) (defScope s_least_ones) 1 "found" = true := by decide +kernel
theorem v_least_ones_2 : visB N_least_ones (defScope s_least_ones) 2 "monomial" = true := by decide +kernel
theorem l_least_ones_2 : locB N_least_ones (defScope s_least_ones) (defScope s_least_ones) 2 "monomial" = true := by decide +kernel
theorem g_least_ones_sorted : glB (defScope s_least_ones) "sorted" = true := by decide +kernel
theorem g_least_ones_set : glB (defScope s_least_ones) "set" = true := by decide +kernel
theorem g_least_ones_any : glB (defScope s_least_ones) "any" = true := by decide +kernel
set_option maxHeartbeats 4000000 in
theorem d_least_ones {sp_divides : SpD} (T : Tx mg) (C_divides : Cl P w K mg base "divides" 1 sp_divides) : ∀ X, Cok P w K mg base X N_least_ones (defScope s_least_ones) (defScope s_least_ones) 1 → DSs X (defBody s_least_ones) (rd_least_ones sp_divides) := fun X c =>
  (ds_cons (ds_asg c (de_lst true da_nil) (dg_name c l_least_ones_1) rfl rfl)
  (ds_cons (ds_for c (di_seq (BS.de_sortB false c g_least_ones_sorted T.b_sorted g_least_ones_set T.b_set (de_var c v_least_ones_0))) (dg_name c l_least_ones_2) (ds_one (ds_if (dt_not (dt_val (de_cb c g_least_ones_any T.b_any bb_any (c_any c.calm) (da_cons (de_lc false [("other", 3)] c (by decide +kernel) (by decide) (di_seq (de_var c v_least_ones_1)) (fun _ c1 => (dg_name c1 (by decide +kernel))) (fun _ c1 => dts_nil) (fun _ c1 => (de_callC c1 (by decide +kernel) C_divides (by decide) (da_cons (de_var c1 (by decide +kernel)) (da_cons (de_var c1 (by decide +kernel)) da_nil))))) da_nil)))) (ds_one (ds_expr (de_append (de_var c v_least_ones_1) (de_var c v_least_ones_2)))) ds_nil)))
  (ds_one (ds_ret (de_var c v_least_ones_1)))))
theorem o_least_ones {sp_divides : SpD} (T : Tx mg) (C_divides : Cl P w K mg base "divides" 1 sp_divides) {f : Addr} {fd : FuncData} {sp : SpD} (Fu : Fun K "least_ones" "least_ones" s_least_ones f fd) (hm : mg "least_ones" = some (.ref f)) (len : ∀ xs st Q, sp xs st Q → xs.length = 1) (sem : ∀ xs st Q, sp xs st Q → rd_least_ones sp_divides { nx := fun _ st' => Fg Q (.d .none) st', rt := Fg Q } (startD 4 xs) st) : Cl P w K mg base "least_ones" 2 sp :=
  ⟨f, fd, ["monomials"], hm, Fu.kp, fn_ok Fu S_least_ones len (d_least_ones T C_divides) sem, Fu.binds fun _ _ _ _ _ _ us hl => match us, hl with | [_], _ => rfl⟩
abbrev s_made : Stmt := top 12
abbrev N_made : List Str := ["n", "monomials", "found", "monomial"]
theorem S_made : FnScope N_made ["n", "monomials"] (defScope s_made) := ⟨rfl, rfl, rfl, by decide +kernel, rfl, by decide +kernel, by decide +kernel⟩
theorem v_made_0 : visB N_made (defScope s_made) 0 "n" = true := by decide +kernel
theorem v_made_1 : visB N_made (defScope s_made) 1 "monomials" = true := by decide +kernel
theorem v_made_2 : visB N_made (defScope s_made) 2 "found" = true := by decide +kernel
theorem l_made_2 : locB N_made (defScope s_made) (defScope s_made) 2 "found" = true := by decide +kernel
theorem v_made_3 : visB N_made (defScope s_made) 3 "monomial" = true := by decide +kernel
theorem l_made_3 : locB N_made (defScope s_made) (defScope s_made) 3 "monomial" = true := by decide +kernel
theorem g_made_least_ones : glB (defScope s_made) "least_ones" = true := by decide +kernel
theorem g_made_len : glB (defScope s_made) "len" = true := by decide +kernel
theorem g_made_MOST_GENERATORS : glB (defScope s_made) "MOST_GENERATORS" = true := by decide +kernel
theorem g_made_max : glB (defScope s_made) "max" = true := by decide +kernel
theorem g_made_MOST_EXPONENT : glB (defScope s_made) "MOST_EXPONENT" = true := by decide +kernel
theorem g_made_tuple : glB (defScope s_made) "tuple" = true := by decide +kernel
set_option maxHeartbeats 4000000 in
theorem d_made {sp_least_ones : SpD} (T : Tx mg) (C_least_ones : Cl P w K mg base "least_ones" 2 sp_least_ones) : ∀ X, Cok P w K mg base X N_made (defScope s_made) (defScope s_made) 2 → DSs X (defBody s_made) (rd_made sp_least_ones) := fun X c =>
  (ds_cons (ds_asg c (de_callC c g_made_least_ones C_least_ones (by decide) (da_cons (de_var c v_made_1) da_nil)) (dg_name c l_made_2) rfl rfl)
  (ds_cons (ds_if (dt_cp op_qGt rfl (de_cb c g_made_len T.b_len bb_len c_len (da_cons (de_var c v_made_2) da_nil)) (de_gint c g_made_MOST_GENERATORS T.c_MOST_GENERATORS)) (ds_one ds_never) ds_nil)
  (ds_cons (ds_for c (di_seq (de_var c v_made_2)) (dg_name c l_made_3) (ds_one (ds_if (dt_cp op_qGt rfl (de_cb c g_made_max T.b_max bb_max (c_max1 c.calm c.hu65) (da_cons (de_var c v_made_3) da_nil)) (de_gint c g_made_MOST_EXPONENT T.c_MOST_EXPONENT)) (ds_one ds_never) ds_nil)))
  (ds_one (ds_ret (de_tup (da_cons (de_var c v_made_0) (da_cons (de_ct c g_made_tuple T.b_tuple bt_tuple c_tuple (da_cons (de_var c v_made_2) da_nil)) da_nil))))))))
theorem o_made {sp_least_ones : SpD} (T : Tx mg) (C_least_ones : Cl P w K mg base "least_ones" 2 sp_least_ones) {f : Addr} {fd : FuncData} {sp : SpD} (Fu : Fun K "made" "made" s_made f fd) (hm : mg "made" = some (.ref f)) (len : ∀ xs st Q, sp xs st Q → xs.length = 2) (sem : ∀ xs st Q, sp xs st Q → rd_made sp_least_ones { nx := fun _ st' => Fg Q (.d .none) st', rt := Fg Q } (startD 4 xs) st) : Cl P w K mg base "made" 3 sp :=
  ⟨f, fd, ["n", "monomials"], hm, Fu.kp, fn_ok Fu S_made len (d_made T C_least_ones) sem, Fu.binds fun _ _ _ _ _ _ us hl => match us, hl with | [_, _], _ => rfl⟩
abbrev s_support_of : Stmt := top 6
abbrev N_support_of : List Str := ["monomial", "variable", "exponent"]
theorem S_support_of : FnScope N_support_of ["monomial"] (defScope s_support_of) := ⟨rfl, rfl, rfl, by decide +kernel, rfl, by decide +kernel, by decide +kernel⟩
theorem v_support_of_0 : visB N_support_of (defScope s_support_of) 0 "monomial" = true := by decide +kernel
theorem g_support_of_enumerate : glB (defScope s_support_of) "enumerate" = true := by decide +kernel
theorem g_support_of_tuple : glB (defScope s_support_of) "tuple" = true := by decide +kernel
set_option maxHeartbeats 4000000 in
theorem d_support_of  (T : Tx mg)  : ∀ X, Cok P w K mg base X N_support_of (defScope s_support_of) (defScope s_support_of) 0 → DSs X (defBody s_support_of) (rd_support_of) := fun X c =>
  (ds_one (ds_ret (de_ct c g_support_of_tuple T.b_tuple bt_tuple c_tuple (da_cons (de_lc false [("variable", 1), ("exponent", 2)] c (by decide +kernel) (by decide) (di_enum c g_support_of_enumerate T.b_enumerate (da_cons (de_var c v_support_of_0) da_nil)) (fun _ c1 => (dg_tup c1 (dgs_cons (dg_name c1 (by decide +kernel)) (dgs_cons (dg_name c1 (by decide +kernel)) dgs_nil)))) (fun _ c1 => (dts_one (dt_cp op_qGt rfl (de_var c1 (by decide +kernel)) de_int))) (fun _ c1 => (de_var c1 (by decide +kernel)))) da_nil))))
theorem o_support_of  (T : Tx mg)  {f : Addr} {fd : FuncData} {sp : SpD} (Fu : Fun K "support_of" "support_of" s_support_of f fd) (hm : mg "support_of" = some (.ref f)) (len : ∀ xs st Q, sp xs st Q → xs.length = 1) (sem : ∀ xs st Q, sp xs st Q → rd_support_of { nx := fun _ st' => Fg Q (.d .none) st', rt := Fg Q } (startD 3 xs) st) : Cl P w K mg base "support_of" 1 sp :=
  ⟨f, fd, ["monomial"], hm, Fu.kp, fn_ok Fu S_support_of len (d_support_of T ) sem, Fu.binds fun _ _ _ _ _ _ us hl => match us, hl with | [_], _ => rfl⟩
abbrev s_stepped : Stmt := top 15
abbrev N_stepped : List Str := ["monomial", "m", "j", "row"]
theorem S_stepped : FnScope N_stepped ["monomial", "m", "j"] (defScope s_stepped) := ⟨rfl, rfl, rfl, by decide +kernel, rfl, by decide +kernel, by decide +kernel⟩
theorem v_stepped_0 : visB N_stepped (defScope s_stepped) 0 "monomial" = true := by decide +kernel
theorem v_stepped_1 : visB N_stepped (defScope s_stepped) 1 "m" = true := by decide +kernel
theorem v_stepped_2 : visB N_stepped (defScope s_stepped) 2 "j" = true := by decide +kernel
theorem v_stepped_3 : visB N_stepped (defScope s_stepped) 3 "row" = true := by decide +kernel
theorem l_stepped_3 : locB N_stepped (defScope s_stepped) (defScope s_stepped) 3 "row" = true := by decide +kernel
theorem g_stepped_list : glB (defScope s_stepped) "list" = true := by decide +kernel
theorem g_stepped_tuple : glB (defScope s_stepped) "tuple" = true := by decide +kernel
set_option maxHeartbeats 4000000 in
theorem d_stepped  (T : Tx mg)  : ∀ X, Cok P w K mg base X N_stepped (defScope s_stepped) (defScope s_stepped) 0 → DSs X (defBody s_stepped) (rd_stepped) := fun X c =>
  (ds_cons (ds_asg c (de_ct c g_stepped_list T.b_list bt_list (c_list true) (da_cons (de_var c v_stepped_0) da_nil)) (dg_name c l_stepped_3) rfl rfl)
  (ds_cons (ds_laug (de_var c v_stepped_3) (de_var c v_stepped_1) de_int ip_sub)
  (ds_cons (ds_laug (de_var c v_stepped_3) (de_var c v_stepped_2) de_int ip_add)
  (ds_one (ds_ret (de_ct c g_stepped_tuple T.b_tuple bt_tuple c_tuple (da_cons (de_var c v_stepped_3) da_nil)))))))
theorem o_stepped  (T : Tx mg)  {f : Addr} {fd : FuncData} {sp : SpD} (Fu : Fun K "stepped" "stepped" s_stepped f fd) (hm : mg "stepped" = some (.ref f)) (len : ∀ xs st Q, sp xs st Q → xs.length = 3) (sem : ∀ xs st Q, sp xs st Q → rd_stepped { nx := fun _ st' => Fg Q (.d .none) st', rt := Fg Q } (startD 4 xs) st) : Cl P w K mg base "stepped" 1 sp :=
  ⟨f, fd, ["monomial", "m", "j"], hm, Fu.kp, fn_ok Fu S_stepped len (d_stepped T ) sem, Fu.binds fun _ _ _ _ _ _ us hl => match us, hl with | [_, _, _], _ => rfl⟩
abbrev s_steps_down : Stmt := top 18
abbrev N_steps_down : List Str := ["monomial", "found", "m", "j"]
theorem S_steps_down : FnScope N_steps_down ["monomial"] (defScope s_steps_down) := ⟨rfl, rfl, rfl, by decide +kernel, rfl, by decide +kernel, by decide +kernel⟩
theorem v_steps_down_0 : visB N_steps_down (defScope s_steps_down) 0 "monomial" = true := by decide +kernel
theorem v_steps_down_1 : visB N_steps_down (defScope s_steps_down) 1 "found" = true := by decide +kernel
theorem l_steps_down_1 : locB N_steps_down (defScope s_steps_down) (defScope s_steps_down) 1 "found" = true := by decide +kernel
theorem v_steps_down_2 : visB N_steps_down (defScope s_steps_down) 2 "m" = true := by decide +kernel
theorem l_steps_down_2 : locB N_steps_down (defScope s_steps_down) (defScope s_steps_down) 2 "m" = true := by decide +kernel
theorem g_steps_down_support_of : glB (defScope s_steps_down) "support_of" = true := by decide +kernel
theorem g_steps_down_range : glB (defScope s_steps_down) "range" = true := by decide +kernel
set_option maxHeartbeats 4000000 in
theorem d_steps_down {sp_support_of : SpD} {sp_stepped : SpD} (T : Tx mg) (C_support_of : Cl P w K mg base "support_of" 1 sp_support_of) (C_stepped : Cl P w K mg base "stepped" 1 sp_stepped) : ∀ X, Cok P w K mg base X N_steps_down (defScope s_steps_down) (defScope s_steps_down) 1 → DSs X (defBody s_steps_down) (rd_steps_down sp_support_of sp_stepped) := fun X c =>
  (ds_cons (ds_asg c (de_lst true da_nil) (dg_name c l_steps_down_1) rfl rfl)
  (ds_cons (ds_for c (di_seq (de_callC c g_steps_down_support_of C_support_of (by decide) (da_cons (de_var c v_steps_down_0) da_nil))) (dg_name c l_steps_down_2) (ds_one (ds_expr (de_extend (de_var c v_steps_down_1) (de_lc false [("j", 3)] c (by decide +kernel) (by decide) (di_rng1 c g_steps_down_range T.b_range (da_cons (de_var c v_steps_down_2) da_nil)) (fun _ c1 => (dg_name c1 (by decide +kernel))) (fun _ c1 => dts_nil) (fun _ c1 => (de_callC c1 (by decide +kernel) C_stepped (by decide) (da_cons (de_var c1 (by decide +kernel)) (da_cons (de_var c1 (by decide +kernel)) (da_cons (de_var c1 (by decide +kernel)) da_nil))))))))))
  (ds_one (ds_ret (de_var c v_steps_down_1)))))
theorem o_steps_down {sp_support_of : SpD} {sp_stepped : SpD} (T : Tx mg) (C_support_of : Cl P w K mg base "support_of" 1 sp_support_of) (C_stepped : Cl P w K mg base "stepped" 1 sp_stepped) {f : Addr} {fd : FuncData} {sp : SpD} (Fu : Fun K "steps_down" "steps_down" s_steps_down f fd) (hm : mg "steps_down" = some (.ref f)) (len : ∀ xs st Q, sp xs st Q → xs.length = 1) (sem : ∀ xs st Q, sp xs st Q → rd_steps_down sp_support_of sp_stepped { nx := fun _ st' => Fg Q (.d .none) st', rt := Fg Q } (startD 4 xs) st) : Cl P w K mg base "steps_down" 2 sp :=
  ⟨f, fd, ["monomial"], hm, Fu.kp, fn_ok Fu S_steps_down len (d_steps_down T C_support_of C_stepped) sem, Fu.binds fun _ _ _ _ _ _ us hl => match us, hl with | [_], _ => rfl⟩
abbrev s_is_held : Stmt := top 19
abbrev N_is_held : List Str := ["generators", "monomial", "generator"]
theorem S_is_held : FnScope N_is_held ["generators", "monomial"] (defScope s_is_held) := ⟨rfl, rfl, rfl, by decide +kernel, rfl, by decide +kernel, by decide +kernel⟩
theorem v_is_held_0 : visB N_is_held (defScope s_is_held) 0 "generators" = true := by decide +kernel
theorem g_is_held_any : glB (defScope s_is_held) "any" = true := by decide +kernel
set_option maxHeartbeats 4000000 in
theorem d_is_held {sp_divides : SpD} (T : Tx mg) (C_divides : Cl P w K mg base "divides" 1 sp_divides) : ∀ X, Cok P w K mg base X N_is_held (defScope s_is_held) (defScope s_is_held) 1 → DSs X (defBody s_is_held) (rd_is_held sp_divides) := fun X c =>
  (ds_one (ds_ret (de_cb c g_is_held_any T.b_any bb_any (c_any c.calm) (da_cons (de_lc false [("generator", 2)] c (by decide +kernel) (by decide) (di_seq (de_var c v_is_held_0)) (fun _ c1 => (dg_name c1 (by decide +kernel))) (fun _ c1 => dts_nil) (fun _ c1 => (de_callC c1 (by decide +kernel) C_divides (by decide) (da_cons (de_var c1 (by decide +kernel)) (da_cons (de_var c1 (by decide +kernel)) da_nil))))) da_nil))))
theorem o_is_held {sp_divides : SpD} (T : Tx mg) (C_divides : Cl P w K mg base "divides" 1 sp_divides) {f : Addr} {fd : FuncData} {sp : SpD} (Fu : Fun K "is_held" "is_held" s_is_held f fd) (hm : mg "is_held" = some (.ref f)) (len : ∀ xs st Q, sp xs st Q → xs.length = 2) (sem : ∀ xs st Q, sp xs st Q → rd_is_held sp_divides { nx := fun _ st' => Fg Q (.d .none) st', rt := Fg Q } (startD 3 xs) st) : Cl P w K mg base "is_held" 2 sp :=
  ⟨f, fd, ["generators", "monomial"], hm, Fu.kp, fn_ok Fu S_is_held len (d_is_held T C_divides) sem, Fu.binds fun _ _ _ _ _ _ us hl => match us, hl with | [_, _], _ => rfl⟩
abbrev s_added_degree : Stmt := top 20
abbrev N_added_degree : List Str := ["lower", "some", "found", "met", "at", "other", "monomial"]
theorem S_added_degree : FnScope N_added_degree ["lower", "some"] (defScope s_added_degree) := ⟨rfl, rfl, rfl, by decide +kernel, rfl, by decide +kernel, by decide +kernel⟩
theorem v_added_degree_0 : visB N_added_degree (defScope s_added_degree) 0 "lower" = true := by decide +kernel
theorem v_added_degree_1 : visB N_added_degree (defScope s_added_degree) 1 "some" = true := by decide +kernel
theorem v_added_degree_2 : visB N_added_degree (defScope s_added_degree) 2 "found" = true := by decide +kernel
theorem v_added_degree_3 : visB N_added_degree (defScope s_added_degree) 3 "met" = true := by decide +kernel
theorem v_added_degree_4 : visB N_added_degree (defScope s_added_degree) 4 "at" = true := by decide +kernel
theorem l_added_degree_4 : locB N_added_degree (defScope s_added_degree) (defScope s_added_degree) 4 "at" = true := by decide +kernel
theorem v_added_degree_5 : visB N_added_degree (defScope s_added_degree) 5 "other" = true := by decide +kernel
theorem l_added_degree_5 : locB N_added_degree (defScope s_added_degree) (defScope s_added_degree) 5 "other" = true := by decide +kernel
theorem g_added_degree_sorted : glB (defScope s_added_degree) "sorted" = true := by decide +kernel
theorem g_added_degree_set : glB (defScope s_added_degree) "set" = true := by decide +kernel
theorem g_added_degree_is_held : glB (defScope s_added_degree) "is_held" = true := by decide +kernel
theorem g_added_degree_len : glB (defScope s_added_degree) "len" = true := by decide +kernel
theorem g_added_degree_MOST_GENERATORS : glB (defScope s_added_degree) "MOST_GENERATORS" = true := by decide +kernel
theorem g_added_degree_steps_down : glB (defScope s_added_degree) "steps_down" = true := by decide +kernel
set_option maxHeartbeats 4000000 in
theorem d_added_degree {sp_is_held : SpD} {sp_steps_down : SpD} (T : Tx mg) (C_is_held : Cl P w K mg base "is_held" 2 sp_is_held) (C_steps_down : Cl P w K mg base "steps_down" 2 sp_steps_down) : ∀ X, Cok P w K mg base X N_added_degree (defScope s_added_degree) (defScope s_added_degree) 2 → DSs X (defBody s_added_degree) (rd_added_degree sp_is_held sp_steps_down) := fun X c =>
  (ds_cons (ds_setLc (i := 2) true [("monomial", 6)] c (by decide +kernel) (by kernel_rfl) (by decide +kernel) (by decide) (di_seq (BS.de_sortB false c g_added_degree_sorted T.b_sorted g_added_degree_set T.b_set (de_var c v_added_degree_1))) (fun _ c1 => (dg_name c1 (by decide +kernel))) (fun _ c1 => (dts_one (dt_not (dt_val (de_callC c1 (by decide +kernel) C_is_held (by decide) (da_cons (de_var c1 (by decide +kernel)) (da_cons (de_var c1 (by decide +kernel)) da_nil))))))) (fun _ c1 => (de_var c1 (by decide +kernel))))
  (ds_cons (ds_setDc (i := 3) true [("monomial", 6)] c (by decide +kernel) (by kernel_rfl) (by decide +kernel) (by decide) (di_seq (de_var c v_added_degree_2)) (fun _ c1 => (dg_name c1 (by decide +kernel))) (fun _ c1 => dts_nil) (fun _ c1 => (de_var c1 (by decide +kernel))) (fun _ c1 => de_bl))
  (ds_cons (ds_asg c de_int (dg_name c l_added_degree_4) rfl rfl)
  (ds_cons (ds_while c (dt_cp (op_qLt c.hu0) rfl (de_var c v_added_degree_4) (de_cb c g_added_degree_len T.b_len bb_len c_len (da_cons (de_var c v_added_degree_2) da_nil))) (ds_cons (ds_if (dt_cp op_qGt rfl (de_bin (op_qAdd false) (de_cb c g_added_degree_len T.b_len bb_len c_len (da_cons (de_var c v_added_degree_0) da_nil)) (de_cb c g_added_degree_len T.b_len bb_len c_len (da_cons (de_var c v_added_degree_2) da_nil))) (de_gint c g_added_degree_MOST_GENERATORS T.c_MOST_GENERATORS)) (ds_one ds_never) ds_nil)
      (ds_cons (ds_for c (di_seq (de_callC c g_added_degree_steps_down C_steps_down (by decide) (da_cons (de_ix (de_var c v_added_degree_2) (de_var c v_added_degree_4) (fun _ _ => rfl)) da_nil))) (dg_name c l_added_degree_5) (ds_one (ds_if (DW.pt (dw_and (dt_dnotin c (de_var c v_added_degree_5) (de_var c v_added_degree_3)) (dw_and1 (dt_not (dt_val (de_callC c g_added_degree_is_held C_is_held (by decide) (da_cons (de_var c v_added_degree_0) (da_cons (de_var c v_added_degree_5) da_nil)))))))) (ds_cons (ds_dput c (de_var c v_added_degree_3) (de_var c v_added_degree_5) de_bl rfl)
              (ds_one (ds_expr (de_append (de_var c v_added_degree_2) (de_var c v_added_degree_5))))) ds_nil)))
      (ds_one (ds_aug c l_added_degree_4 ip_add de_int)))))
  (ds_one (ds_ret (de_bin (op_qAdd false) (de_var c v_added_degree_0) (de_var c v_added_degree_2))))))))
theorem o_added_degree {sp_is_held : SpD} {sp_steps_down : SpD} (T : Tx mg) (C_is_held : Cl P w K mg base "is_held" 2 sp_is_held) (C_steps_down : Cl P w K mg base "steps_down" 2 sp_steps_down) {f : Addr} {fd : FuncData} {sp : SpD} (Fu : Fun K "added_degree" "added_degree" s_added_degree f fd) (hm : mg "added_degree" = some (.ref f)) (len : ∀ xs st Q, sp xs st Q → xs.length = 2) (sem : ∀ xs st Q, sp xs st Q → rd_added_degree sp_is_held sp_steps_down { nx := fun _ st' => Fg Q (.d .none) st', rt := Fg Q } (startD 7 xs) st) : Cl P w K mg base "added_degree" 3 sp :=
  ⟨f, fd, ["lower", "some"], hm, Fu.kp, fn_ok Fu S_added_degree len (d_added_degree T C_is_held C_steps_down) sem, Fu.binds fun _ _ _ _ _ _ us hl => match us, hl with | [_, _], _ => rfl⟩
abbrev s_degree_of : Stmt := top 5
abbrev N_degree_of : List Str := ["monomial"]
theorem S_degree_of : FnScope N_degree_of ["monomial"] (defScope s_degree_of) := ⟨rfl, rfl, rfl, by decide +kernel, rfl, by decide +kernel, by decide +kernel⟩
theorem v_degree_of_0 : visB N_degree_of (defScope s_degree_of) 0 "monomial" = true := by decide +kernel
theorem g_degree_of_sum : glB (defScope s_degree_of) "sum" = true := by decide +kernel
set_option maxHeartbeats 4000000 in
theorem d_degree_of  (T : Tx mg)  : ∀ X, Cok P w K mg base X N_degree_of (defScope s_degree_of) (defScope s_degree_of) 0 → DSs X (defBody s_degree_of) (rd_degree_of) := fun X c =>
  (ds_one (ds_ret (de_cb c g_degree_of_sum T.b_sum bb_sum (c_sum c.calm) (da_cons (de_var c v_degree_of_0) da_nil))))
theorem o_degree_of  (T : Tx mg)  {f : Addr} {fd : FuncData} {sp : SpD} (Fu : Fun K "degree_of" "degree_of" s_degree_of f fd) (hm : mg "degree_of" = some (.ref f)) (len : ∀ xs st Q, sp xs st Q → xs.length = 1) (sem : ∀ xs st Q, sp xs st Q → rd_degree_of { nx := fun _ st' => Fg Q (.d .none) st', rt := Fg Q } (startD 1 xs) st) : Cl P w K mg base "degree_of" 1 sp :=
  ⟨f, fd, ["monomial"], hm, Fu.kp, fn_ok Fu S_degree_of len (d_degree_of T ) sem, Fu.binds fun _ _ _ _ _ _ us hl => match us, hl with | [_], _ => rfl⟩
abbrev s_stable_hull : Stmt := top 21
abbrev N_stable_hull : List Str := ["n", "monomials", "generators", "degree", "monomial", "one"]
theorem S_stable_hull : FnScope N_stable_hull ["n", "monomials"] (defScope s_stable_hull) := ⟨rfl, rfl, rfl, by decide +kernel, rfl, by decide +kernel, by decide +kernel⟩
theorem v_stable_hull_0 : visB N_stable_hull (defScope s_stable_hull) 0 "n" = true := by decide +kernel
theorem v_stable_hull_1 : visB N_stable_hull (defScope s_stable_hull) 1 "monomials" = true := by decide +kernel
theorem v_stable_hull_2 : visB N_stable_hull (defScope s_stable_hull) 2 "generators" = true := by decide +kernel
theorem l_stable_hull_2 : locB N_stable_hull (defScope s_stable_hull) (defScope s_stable_hull) 2 "generators" = true := by decide +kernel
theorem l_stable_hull_3 : locB N_stable_hull (defScope s_stable_hull) (defScope s_stable_hull) 3 "degree" = true := by decide +kernel
theorem g_stable_hull_sorted : glB (defScope s_stable_hull) "sorted" = true := by decide +kernel
theorem g_stable_hull_set : glB (defScope s_stable_hull) "set" = true := by decide +kernel
theorem g_stable_hull_added_degree : glB (defScope s_stable_hull) "added_degree" = true := by decide +kernel
theorem g_stable_hull_made : glB (defScope s_stable_hull) "made" = true := by decide +kernel
set_option maxHeartbeats 4000000 in
theorem d_stable_hull {sp_degree_of : SpD} {sp_added_degree : SpD} {sp_made : SpD} (T : Tx mg) (C_degree_of : Cl P w K mg base "degree_of" 1 sp_degree_of) (C_added_degree : Cl P w K mg base "added_degree" 3 sp_added_degree) (C_made : Cl P w K mg base "made" 3 sp_made) : ∀ X, Cok P w K mg base X N_stable_hull (defScope s_stable_hull) (defScope s_stable_hull) 3 → DSs X (defBody s_stable_hull) (rd_stable_hull sp_degree_of sp_added_degree sp_made) := fun X c =>
  (ds_cons (ds_asg c (de_lst false da_nil) (dg_name c l_stable_hull_2) rfl rfl)
  (ds_cons (ds_for c (di_seq (de_sortIL false c g_stable_hull_sorted T.b_sorted g_stable_hull_set T.b_set (de_lc false [("monomial", 4)] c (by decide +kernel) (by decide) (di_seq (de_var c v_stable_hull_1)) (fun _ c1 => (dg_name c1 (by decide +kernel))) (fun _ c1 => dts_nil) (fun _ c1 => (de_callC c1 (by decide +kernel) C_degree_of (by decide) (da_cons (de_var c1 (by decide +kernel)) da_nil)))))) (dg_name c l_stable_hull_3) (ds_one (ds_asg c (de_callC c g_stable_hull_added_degree C_added_degree (by decide) (da_cons (de_var c v_stable_hull_2) (da_cons (de_lc false [("one", 5)] c (by decide +kernel) (by decide) (di_seq (de_var c v_stable_hull_1)) (fun _ c1 => (dg_name c1 (by decide +kernel))) (fun _ c1 => (dts_one (dt_cp (op_qEq c1.hu64) rfl (de_callC c1 (by decide +kernel) C_degree_of (by decide) (da_cons (de_var c1 (by decide +kernel)) da_nil)) (de_var c1 (by decide +kernel))))) (fun _ c1 => (de_var c1 (by decide +kernel)))) da_nil))) (dg_name c l_stable_hull_2) rfl rfl)))
  (ds_one (ds_ret (de_callC c g_stable_hull_made C_made (by decide) (da_cons (de_var c v_stable_hull_0) (da_cons (de_var c v_stable_hull_2) da_nil)))))))
theorem o_stable_hull {sp_degree_of : SpD} {sp_added_degree : SpD} {sp_made : SpD} (T : Tx mg) (C_degree_of : Cl P w K mg base "degree_of" 1 sp_degree_of) (C_added_degree : Cl P w K mg base "added_degree" 3 sp_added_degree) (C_made : Cl P w K mg base "made" 3 sp_made) {f : Addr} {fd : FuncData} {sp : SpD} (Fu : Fun K "stable_hull" "stable_hull" s_stable_hull f fd) (hm : mg "stable_hull" = some (.ref f)) (len : ∀ xs st Q, sp xs st Q → xs.length = 2) (sem : ∀ xs st Q, sp xs st Q → rd_stable_hull sp_degree_of sp_added_degree sp_made { nx := fun _ st' => Fg Q (.d .none) st', rt := Fg Q } (startD 6 xs) st) : Cl P w K mg base "stable_hull" 4 sp :=
  ⟨f, fd, ["n", "monomials"], hm, Fu.kp, fn_ok Fu S_stable_hull len (d_stable_hull T C_degree_of C_added_degree C_made) sem, Fu.binds fun _ _ _ _ _ _ us hl => match us, hl with | [_, _], _ => rfl⟩
abbrev s_law_ideal : Stmt := top 29
abbrev N_law_ideal : List Str := ["m", "n", "count", "top", "some", "k", "a"]
theorem S_law_ideal : FnScope N_law_ideal ["m", "n", "count", "top"] (defScope s_law_ideal) := ⟨rfl, rfl, rfl, by decide +kernel, rfl, by decide +kernel, by decide +kernel⟩
theorem v_law_ideal_0 : visB N_law_ideal (defScope s_law_ideal) 0 "m" = true := by decide +kernel
theorem v_law_ideal_1 : visB N_law_ideal (defScope s_law_ideal) 1 "n" = true := by decide +kernel
theorem v_law_ideal_2 : visB N_law_ideal (defScope s_law_ideal) 2 "count" = true := by decide +kernel
theorem v_law_ideal_4 : visB N_law_ideal (defScope s_law_ideal) 4 "some" = true := by decide +kernel
theorem g_law_ideal_law_draw : glB (defScope s_law_ideal) "_law_draw" = true := by decide +kernel
theorem g_law_ideal_range : glB (defScope s_law_ideal) "range" = true := by decide +kernel
theorem g_law_ideal_law_least : glB (defScope s_law_ideal) "_law_least" = true := by decide +kernel
set_option maxHeartbeats 4000000 in
theorem d_law_ideal {sp_law_draw : SpD} {sp_law_monomial : SpD} {sp_law_least : SpD} (T : Tx mg) (C_law_draw : Cl P w K mg base "_law_draw" 1 sp_law_draw) (C_law_monomial : Cl P w K mg base "_law_monomial" 2 sp_law_monomial) (C_law_least : Cl P w K mg base "_law_least" 2 sp_law_least) : ∀ X, Cok P w K mg base X N_law_ideal (defScope s_law_ideal) (defScope s_law_ideal) 2 → DSs X (defBody s_law_ideal) (rd_law_ideal sp_law_draw sp_law_monomial sp_law_least) := fun X c =>
  (ds_cons (ds_setLc (i := 4) false [("k", 5)] c (by decide +kernel) (by kernel_rfl) (by decide +kernel) (by decide) (di_rng1 c g_law_ideal_range T.b_range (da_cons (de_callC c g_law_ideal_law_draw C_law_draw (by decide) (da_cons (de_var c v_law_ideal_0) (da_cons (de_bin (op_qAdd false) (de_var c v_law_ideal_2) de_int) da_nil))) da_nil)) (fun _ c1 => (dg_name c1 (by decide +kernel))) (fun _ c1 => dts_nil) (fun _ c1 => (de_callC c1 (by decide +kernel) C_law_monomial (by decide) (da_cons (de_var c1 (by decide +kernel)) (da_cons (de_var c1 (by decide +kernel)) (da_cons (de_var c1 (by decide +kernel)) da_nil))))))
  (ds_one (ds_ret (de_tup (da_cons (de_var c v_law_ideal_1) (da_cons (de_callC c g_law_ideal_law_least C_law_least (by decide) (da_cons (de_lc false [("a", 6)] c (by decide +kernel) (by decide) (di_seq (de_var c v_law_ideal_4)) (fun _ c1 => (dg_name c1 (by decide +kernel))) (fun _ c1 => (dts_one (dt_cp op_qGt rfl (de_cb c1 (by decide +kernel) T.b_sum bb_sum (c_sum c1.calm) (da_cons (de_var c1 (by decide +kernel)) da_nil)) de_int))) (fun _ c1 => (de_var c1 (by decide +kernel)))) da_nil)) da_nil))))))
theorem o_law_ideal {sp_law_draw : SpD} {sp_law_monomial : SpD} {sp_law_least : SpD} (T : Tx mg) (C_law_draw : Cl P w K mg base "_law_draw" 1 sp_law_draw) (C_law_monomial : Cl P w K mg base "_law_monomial" 2 sp_law_monomial) (C_law_least : Cl P w K mg base "_law_least" 2 sp_law_least) {f : Addr} {fd : FuncData} {sp : SpD} (Fu : Fun K "_law_ideal" "_law_ideal" s_law_ideal f fd) (hm : mg "_law_ideal" = some (.ref f)) (len : ∀ xs st Q, sp xs st Q → xs.length = 4) (sem : ∀ xs st Q, sp xs st Q → rd_law_ideal sp_law_draw sp_law_monomial sp_law_least { nx := fun _ st' => Fg Q (.d .none) st', rt := Fg Q } (startD 7 xs) st) : Cl P w K mg base "_law_ideal" 3 sp :=
  ⟨f, fd, ["m", "n", "count", "top"], hm, Fu.kp, fn_ok Fu S_law_ideal len (d_law_ideal T C_law_draw C_law_monomial C_law_least) sem, Fu.binds fun _ _ _ _ _ _ us hl => match us, hl with | [_, _, _, _], _ => rfl⟩
abbrev s_law_squarefree : Stmt := top 30
abbrev N_law_squarefree : List Str := ["m", "n", "count"]
theorem S_law_squarefree : FnScope N_law_squarefree ["m", "n", "count"] (defScope s_law_squarefree) := ⟨rfl, rfl, rfl, by decide +kernel, rfl, by decide +kernel, by decide +kernel⟩
theorem v_law_squarefree_0 : visB N_law_squarefree (defScope s_law_squarefree) 0 "m" = true := by decide +kernel
theorem v_law_squarefree_1 : visB N_law_squarefree (defScope s_law_squarefree) 1 "n" = true := by decide +kernel
theorem v_law_squarefree_2 : visB N_law_squarefree (defScope s_law_squarefree) 2 "count" = true := by decide +kernel
theorem g_law_squarefree_law_ideal : glB (defScope s_law_squarefree) "_law_ideal" = true := by decide +kernel
set_option maxHeartbeats 4000000 in
theorem d_law_squarefree {sp_law_ideal : SpD} (T : Tx mg) (C_law_ideal : Cl P w K mg base "_law_ideal" 3 sp_law_ideal) : ∀ X, Cok P w K mg base X N_law_squarefree (defScope s_law_squarefree) (defScope s_law_squarefree) 3 → DSs X (defBody s_law_squarefree) (rd_law_squarefree sp_law_ideal) := fun X c =>
  (ds_one (ds_ret (de_callC c g_law_squarefree_law_ideal C_law_ideal (by decide) (da_cons (de_var c v_law_squarefree_0) (da_cons (de_var c v_law_squarefree_1) (da_cons (de_var c v_law_squarefree_2) (da_cons de_int da_nil)))))))
theorem o_law_squarefree {sp_law_ideal : SpD} (T : Tx mg) (C_law_ideal : Cl P w K mg base "_law_ideal" 3 sp_law_ideal) {f : Addr} {fd : FuncData} {sp : SpD} (Fu : Fun K "_law_squarefree" "_law_squarefree" s_law_squarefree f fd) (hm : mg "_law_squarefree" = some (.ref f)) (len : ∀ xs st Q, sp xs st Q → xs.length = 3) (sem : ∀ xs st Q, sp xs st Q → rd_law_squarefree sp_law_ideal { nx := fun _ st' => Fg Q (.d .none) st', rt := Fg Q } (startD 3 xs) st) : Cl P w K mg base "_law_squarefree" 4 sp :=
  ⟨f, fd, ["m", "n", "count"], hm, Fu.kp, fn_ok Fu S_law_squarefree len (d_law_squarefree T C_law_ideal) sem, Fu.binds fun _ _ _ _ _ _ us hl => match us, hl with | [_, _, _], _ => rfl⟩
abbrev s_law_in : Stmt := top 27
abbrev N_law_in : List Str := ["generators", "b", "a"]
theorem S_law_in : FnScope N_law_in ["generators", "b"] (defScope s_law_in) := ⟨rfl, rfl, rfl, by decide +kernel, rfl, by decide +kernel, by decide +kernel⟩
theorem v_law_in_0 : visB N_law_in (defScope s_law_in) 0 "generators" = true := by decide +kernel
set_option maxHeartbeats 4000000 in
theorem d_law_in {sp_law_divides : SpD} (T : Tx mg) (C_law_divides : Cl P w K mg base "_law_divides" 1 sp_law_divides) : ∀ X, Cok P w K mg base X N_law_in (defScope s_law_in) (defScope s_law_in) 1 → DSs X (defBody s_law_in) (rd_law_in sp_law_divides) := fun X c =>
  (ds_one (ds_ret (de_cp (op_qNe c.hu64) rfl (de_lc false [("a", 2)] c (by decide +kernel) (by decide) (di_seq (de_var c v_law_in_0)) (fun _ c1 => (dg_name c1 (by decide +kernel))) (fun _ c1 => (dts_one (dt_val (de_callC c1 (by decide +kernel) C_law_divides (by decide) (da_cons (de_var c1 (by decide +kernel)) (da_cons (de_var c1 (by decide +kernel)) da_nil)))))) (fun _ c1 => (de_var c1 (by decide +kernel)))) (de_lst false da_nil))))
theorem o_law_in {sp_law_divides : SpD} (T : Tx mg) (C_law_divides : Cl P w K mg base "_law_divides" 1 sp_law_divides) {f : Addr} {fd : FuncData} {sp : SpD} (Fu : Fun K "_law_in" "_law_in" s_law_in f fd) (hm : mg "_law_in" = some (.ref f)) (len : ∀ xs st Q, sp xs st Q → xs.length = 2) (sem : ∀ xs st Q, sp xs st Q → rd_law_in sp_law_divides { nx := fun _ st' => Fg Q (.d .none) st', rt := Fg Q } (startD 3 xs) st) : Cl P w K mg base "_law_in" 2 sp :=
  ⟨f, fd, ["generators", "b"], hm, Fu.kp, fn_ok Fu S_law_in len (d_law_in T C_law_divides) sem, Fu.binds fun _ _ _ _ _ _ us hl => match us, hl with | [_, _], _ => rfl⟩
abbrev s_law_strong_place : Stmt := top 32
abbrev N_law_strong_place : List Str := ["generators", "place", "a", "m", "j"]
theorem S_law_strong_place : FnScope N_law_strong_place ["generators"] (defScope s_law_strong_place) := ⟨rfl, rfl, rfl, by decide +kernel, rfl, by decide +kernel, by decide +kernel⟩
theorem v_law_strong_place_0 : visB N_law_strong_place (defScope s_law_strong_place) 0 "generators" = true := by decide +kernel
theorem v_law_strong_place_1 : visB N_law_strong_place (defScope s_law_strong_place) 1 "place" = true := by decide +kernel
theorem l_law_strong_place_1 : locB N_law_strong_place (defScope s_law_strong_place) (defScope s_law_strong_place) 1 "place" = true := by decide +kernel
theorem v_law_strong_place_2 : visB N_law_strong_place (defScope s_law_strong_place) 2 "a" = true := by decide +kernel
theorem l_law_strong_place_2 : locB N_law_strong_place (defScope s_law_strong_place) (defScope s_law_strong_place) 2 "a" = true := by decide +kernel
theorem v_law_strong_place_3 : visB N_law_strong_place (defScope s_law_strong_place) 3 "m" = true := by decide +kernel
theorem l_law_strong_place_3 : locB N_law_strong_place (defScope s_law_strong_place) (defScope s_law_strong_place) 3 "m" = true := by decide +kernel
theorem v_law_strong_place_4 : visB N_law_strong_place (defScope s_law_strong_place) 4 "j" = true := by decide +kernel
theorem l_law_strong_place_4 : locB N_law_strong_place (defScope s_law_strong_place) (defScope s_law_strong_place) 4 "j" = true := by decide +kernel
theorem g_law_strong_place_len : glB (defScope s_law_strong_place) "len" = true := by decide +kernel
theorem g_law_strong_place_range : glB (defScope s_law_strong_place) "range" = true := by decide +kernel
theorem g_law_strong_place_law_moved : glB (defScope s_law_strong_place) "_law_moved" = true := by decide +kernel
theorem g_law_strong_place_law_in : glB (defScope s_law_strong_place) "_law_in" = true := by decide +kernel
set_option maxHeartbeats 4000000 in
theorem d_law_strong_place {sp_law_moved : SpD} {sp_law_in : SpD} (T : Tx mg) (C_law_moved : Cl P w K mg base "_law_moved" 1 sp_law_moved) (C_law_in : Cl P w K mg base "_law_in" 2 sp_law_in) : ∀ X, Cok P w K mg base X N_law_strong_place (defScope s_law_strong_place) (defScope s_law_strong_place) 2 → DSs X (defBody s_law_strong_place) (rd_law_strong_place sp_law_moved sp_law_in) := fun X c =>
  (ds_cons (ds_for c (di_rng1 c g_law_strong_place_range T.b_range (da_cons (de_cb c g_law_strong_place_len T.b_len bb_len c_len (da_cons (de_var c v_law_strong_place_0) da_nil)) da_nil)) (dg_name c l_law_strong_place_1) (ds_cons (ds_asg c (de_ix (de_var c v_law_strong_place_0) (de_var c v_law_strong_place_1) (fun _ _ => rfl)) (dg_name c l_law_strong_place_2) rfl rfl)
      (ds_one (ds_for c (di_rng1 c g_law_strong_place_range T.b_range (da_cons (de_cb c g_law_strong_place_len T.b_len bb_len c_len (da_cons (de_var c v_law_strong_place_2) da_nil)) da_nil)) (dg_name c l_law_strong_place_3) (ds_one (ds_for c (di_rng1 c g_law_strong_place_range T.b_range (da_cons (de_var c v_law_strong_place_3) da_nil)) (dg_name c l_law_strong_place_4) (ds_one (ds_if (DW.pt (dw_and (dt_cp op_qGt rfl (de_ix (de_var c v_law_strong_place_2) (de_var c v_law_strong_place_3) (fun _ _ => rfl)) de_int) (dw_and1 (dt_not (dt_val (de_callC c g_law_strong_place_law_in C_law_in (by decide) (da_cons (de_var c v_law_strong_place_0) (da_cons (de_callC c g_law_strong_place_law_moved C_law_moved (by decide) (da_cons (de_var c v_law_strong_place_2) (da_cons (de_var c v_law_strong_place_3) (da_cons (de_var c v_law_strong_place_4) da_nil)))) da_nil)))))))) (ds_one (ds_ret (de_tup (da_cons (de_var c v_law_strong_place_1) (da_cons (de_var c v_law_strong_place_3) (da_cons (de_var c v_law_strong_place_4) da_nil)))))) ds_nil))))))))
  (ds_one (ds_ret de_non)))
theorem o_law_strong_place {sp_law_moved : SpD} {sp_law_in : SpD} (T : Tx mg) (C_law_moved : Cl P w K mg base "_law_moved" 1 sp_law_moved) (C_law_in : Cl P w K mg base "_law_in" 2 sp_law_in) {f : Addr} {fd : FuncData} {sp : SpD} (Fu : Fun K "_law_strong_place" "_law_strong_place" s_law_strong_place f fd) (hm : mg "_law_strong_place" = some (.ref f)) (len : ∀ xs st Q, sp xs st Q → xs.length = 1) (sem : ∀ xs st Q, sp xs st Q → rd_law_strong_place sp_law_moved sp_law_in { nx := fun _ st' => Fg Q (.d .none) st', rt := Fg Q } (startD 5 xs) st) : Cl P w K mg base "_law_strong_place" 3 sp :=
  ⟨f, fd, ["generators"], hm, Fu.kp, fn_ok Fu S_law_strong_place len (d_law_strong_place T C_law_moved C_law_in) sem, Fu.binds fun _ _ _ _ _ _ us hl => match us, hl with | [_], _ => rfl⟩
abbrev s_law_stable_place : Stmt := top 33
abbrev N_law_stable_place : List Str := ["generators", "place", "a", "last", "j", "k"]
theorem S_law_stable_place : FnScope N_law_stable_place ["generators"] (defScope s_law_stable_place) := ⟨rfl, rfl, rfl, by decide +kernel, rfl, by decide +kernel, by decide +kernel⟩
theorem v_law_stable_place_0 : visB N_law_stable_place (defScope s_law_stable_place) 0 "generators" = true := by decide +kernel
theorem v_law_stable_place_1 : visB N_law_stable_place (defScope s_law_stable_place) 1 "place" = true := by decide +kernel
theorem l_law_stable_place_1 : locB N_law_stable_place (defScope s_law_stable_place) (defScope s_law_stable_place) 1 "place" = true := by decide +kernel
theorem v_law_stable_place_2 : visB N_law_stable_place (defScope s_law_stable_place) 2 "a" = true := by decide +kernel
theorem l_law_stable_place_2 : locB N_law_stable_place (defScope s_law_stable_place) (defScope s_law_stable_place) 2 "a" = true := by decide +kernel
theorem v_law_stable_place_3 : visB N_law_stable_place (defScope s_law_stable_place) 3 "last" = true := by decide +kernel
theorem l_law_stable_place_3 : locB N_law_stable_place (defScope s_law_stable_place) (defScope s_law_stable_place) 3 "last" = true := by decide +kernel
theorem v_law_stable_place_4 : visB N_law_stable_place (defScope s_law_stable_place) 4 "j" = true := by decide +kernel
theorem l_law_stable_place_4 : locB N_law_stable_place (defScope s_law_stable_place) (defScope s_law_stable_place) 4 "j" = true := by decide +kernel
theorem g_law_stable_place_len : glB (defScope s_law_stable_place) "len" = true := by decide +kernel
theorem g_law_stable_place_range : glB (defScope s_law_stable_place) "range" = true := by decide +kernel
theorem g_law_stable_place_max : glB (defScope s_law_stable_place) "max" = true := by decide +kernel
theorem g_law_stable_place_law_moved : glB (defScope s_law_stable_place) "_law_moved" = true := by decide +kernel
theorem g_law_stable_place_law_in : glB (defScope s_law_stable_place) "_law_in" = true := by decide +kernel
set_option maxHeartbeats 4000000 in
theorem d_law_stable_place {sp_law_moved : SpD} {sp_law_in : SpD} (T : Tx mg) (C_law_moved : Cl P w K mg base "_law_moved" 1 sp_law_moved) (C_law_in : Cl P w K mg base "_law_in" 2 sp_law_in) : ∀ X, Cok P w K mg base X N_law_stable_place (defScope s_law_stable_place) (defScope s_law_stable_place) 2 → DSs X (defBody s_law_stable_place) (rd_law_stable_place sp_law_moved sp_law_in) := fun X c =>
  (ds_cons (ds_for c (di_rng1 c g_law_stable_place_range T.b_range (da_cons (de_cb c g_law_stable_place_len T.b_len bb_len c_len (da_cons (de_var c v_law_stable_place_0) da_nil)) da_nil)) (dg_name c l_law_stable_place_1) (ds_cons (ds_asg c (de_ix (de_var c v_law_stable_place_0) (de_var c v_law_stable_place_1) (fun _ _ => rfl)) (dg_name c l_law_stable_place_2) rfl rfl)
      (ds_cons (ds_asg c (de_cb c g_law_stable_place_max T.b_max bb_max (c_max1 c.calm c.hu65) (da_cons (de_bin (op_qAdd false) (de_lc false [("k", 5)] c (by decide +kernel) (by decide) (di_rng1 c g_law_stable_place_range T.b_range (da_cons (de_cb c g_law_stable_place_len T.b_len bb_len c_len (da_cons (de_var c v_law_stable_place_2) da_nil)) da_nil)) (fun _ c1 => (dg_name c1 (by decide +kernel))) (fun _ c1 => (dts_one (dt_cp op_qGt rfl (de_ix (de_var c1 (by decide +kernel)) (de_var c1 (by decide +kernel)) (fun _ _ => rfl)) de_int))) (fun _ c1 => (de_var c1 (by decide +kernel)))) (de_lst false (da_cons (de_neg de_int) da_nil))) da_nil)) (dg_name c l_law_stable_place_3) rfl rfl)
      (ds_one (ds_for c (di_rng1 c g_law_stable_place_range T.b_range (da_cons (de_var c v_law_stable_place_3) da_nil)) (dg_name c l_law_stable_place_4) (ds_one (ds_if (dt_not (dt_val (de_callC c g_law_stable_place_law_in C_law_in (by decide) (da_cons (de_var c v_law_stable_place_0) (da_cons (de_callC c g_law_stable_place_law_moved C_law_moved (by decide) (da_cons (de_var c v_law_stable_place_2) (da_cons (de_var c v_law_stable_place_3) (da_cons (de_var c v_law_stable_place_4) da_nil)))) da_nil))))) (ds_one (ds_ret (de_tup (da_cons (de_var c v_law_stable_place_1) (da_cons (de_var c v_law_stable_place_4) da_nil))))) ds_nil)))))))
  (ds_one (ds_ret de_non)))
theorem o_law_stable_place {sp_law_moved : SpD} {sp_law_in : SpD} (T : Tx mg) (C_law_moved : Cl P w K mg base "_law_moved" 1 sp_law_moved) (C_law_in : Cl P w K mg base "_law_in" 2 sp_law_in) {f : Addr} {fd : FuncData} {sp : SpD} (Fu : Fun K "_law_stable_place" "_law_stable_place" s_law_stable_place f fd) (hm : mg "_law_stable_place" = some (.ref f)) (len : ∀ xs st Q, sp xs st Q → xs.length = 1) (sem : ∀ xs st Q, sp xs st Q → rd_law_stable_place sp_law_moved sp_law_in { nx := fun _ st' => Fg Q (.d .none) st', rt := Fg Q } (startD 6 xs) st) : Cl P w K mg base "_law_stable_place" 3 sp :=
  ⟨f, fd, ["generators"], hm, Fu.kp, fn_ok Fu S_law_stable_place len (d_law_stable_place T C_law_moved C_law_in) sem, Fu.binds fun _ _ _ _ _ _ us hl => match us, hl with | [_], _ => rfl⟩
abbrev s_contains : Stmt := top 13
abbrev N_contains : List Str := ["ideal", "monomial", "generator"]
theorem S_contains : FnScope N_contains ["ideal", "monomial"] (defScope s_contains) := ⟨rfl, rfl, rfl, by decide +kernel, rfl, by decide +kernel, by decide +kernel⟩
theorem v_contains_0 : visB N_contains (defScope s_contains) 0 "ideal" = true := by decide +kernel
theorem g_contains_any : glB (defScope s_contains) "any" = true := by decide +kernel
set_option maxHeartbeats 4000000 in
theorem d_contains {sp_divides : SpD} (T : Tx mg) (C_divides : Cl P w K mg base "divides" 1 sp_divides) : ∀ X, Cok P w K mg base X N_contains (defScope s_contains) (defScope s_contains) 1 → DSs X (defBody s_contains) (rd_contains sp_divides) := fun X c =>
  (ds_one (ds_ret (de_cb c g_contains_any T.b_any bb_any (c_any c.calm) (da_cons (de_lc false [("generator", 2)] c (by decide +kernel) (by decide) (di_seq (de_ix (de_var c v_contains_0) de_int (fun _ _ => rfl))) (fun _ c1 => (dg_name c1 (by decide +kernel))) (fun _ c1 => dts_nil) (fun _ c1 => (de_callC c1 (by decide +kernel) C_divides (by decide) (da_cons (de_var c1 (by decide +kernel)) (da_cons (de_var c1 (by decide +kernel)) da_nil))))) da_nil))))
theorem o_contains {sp_divides : SpD} (T : Tx mg) (C_divides : Cl P w K mg base "divides" 1 sp_divides) {f : Addr} {fd : FuncData} {sp : SpD} (Fu : Fun K "contains" "contains" s_contains f fd) (hm : mg "contains" = some (.ref f)) (len : ∀ xs st Q, sp xs st Q → xs.length = 2) (sem : ∀ xs st Q, sp xs st Q → rd_contains sp_divides { nx := fun _ st' => Fg Q (.d .none) st', rt := Fg Q } (startD 3 xs) st) : Cl P w K mg base "contains" 2 sp :=
  ⟨f, fd, ["ideal", "monomial"], hm, Fu.kp, fn_ok Fu S_contains len (d_contains T C_divides) sem, Fu.binds fun _ _ _ _ _ _ us hl => match us, hl with | [_, _], _ => rfl⟩
abbrev s_strong_breach : Stmt := top 17
abbrev N_strong_breach : List Str := ["ideal", "place", "generator", "m", "j"]
theorem S_strong_breach : FnScope N_strong_breach ["ideal"] (defScope s_strong_breach) := ⟨rfl, rfl, rfl, by decide +kernel, rfl, by decide +kernel, by decide +kernel⟩
theorem v_strong_breach_0 : visB N_strong_breach (defScope s_strong_breach) 0 "ideal" = true := by decide +kernel
theorem v_strong_breach_1 : visB N_strong_breach (defScope s_strong_breach) 1 "place" = true := by decide +kernel
theorem l_strong_breach_1 : locB N_strong_breach (defScope s_strong_breach) (defScope s_strong_breach) 1 "place" = true := by decide +kernel
theorem v_strong_breach_2 : visB N_strong_breach (defScope s_strong_breach) 2 "generator" = true := by decide +kernel
theorem l_strong_breach_2 : locB N_strong_breach (defScope s_strong_breach) (defScope s_strong_breach) 2 "generator" = true := by decide +kernel
theorem v_strong_breach_3 : visB N_strong_breach (defScope s_strong_breach) 3 "m" = true := by decide +kernel
theorem l_strong_breach_3 : locB N_strong_breach (defScope s_strong_breach) (defScope s_strong_breach) 3 "m" = true := by decide +kernel
theorem v_strong_breach_4 : visB N_strong_breach (defScope s_strong_breach) 4 "j" = true := by decide +kernel
theorem l_strong_breach_4 : locB N_strong_breach (defScope s_strong_breach) (defScope s_strong_breach) 4 "j" = true := by decide +kernel
theorem g_strong_breach_enumerate : glB (defScope s_strong_breach) "enumerate" = true := by decide +kernel
theorem g_strong_breach_support_of : glB (defScope s_strong_breach) "support_of" = true := by decide +kernel
theorem g_strong_breach_range : glB (defScope s_strong_breach) "range" = true := by decide +kernel
theorem g_strong_breach_stepped : glB (defScope s_strong_breach) "stepped" = true := by decide +kernel
theorem g_strong_breach_contains : glB (defScope s_strong_breach) "contains" = true := by decide +kernel
set_option maxHeartbeats 4000000 in
theorem d_strong_breach {sp_support_of : SpD} {sp_stepped : SpD} {sp_contains : SpD} (T : Tx mg) (C_support_of : Cl P w K mg base "support_of" 1 sp_support_of) (C_stepped : Cl P w K mg base "stepped" 1 sp_stepped) (C_contains : Cl P w K mg base "contains" 2 sp_contains) : ∀ X, Cok P w K mg base X N_strong_breach (defScope s_strong_breach) (defScope s_strong_breach) 2 → DSs X (defBody s_strong_breach) (rd_strong_breach sp_support_of sp_stepped sp_contains) := fun X c =>
  (ds_cons (ds_for c (di_enum c g_strong_breach_enumerate T.b_enumerate (da_cons (de_ix (de_var c v_strong_breach_0) de_int (fun _ _ => rfl)) da_nil)) (dg_tup c (dgs_cons (dg_name c l_strong_breach_1) (dgs_cons (dg_name c l_strong_breach_2) dgs_nil))) (ds_one (ds_for c (di_seq (de_callC c g_strong_breach_support_of C_support_of (by decide) (da_cons (de_var c v_strong_breach_2) da_nil))) (dg_name c l_strong_breach_3) (ds_one (ds_for c (di_rng1 c g_strong_breach_range T.b_range (da_cons (de_var c v_strong_breach_3) da_nil)) (dg_name c l_strong_breach_4) (ds_one (ds_if (dt_not (dt_val (de_callC c g_strong_breach_contains C_contains (by decide) (da_cons (de_var c v_strong_breach_0) (da_cons (de_callC c g_strong_breach_stepped C_stepped (by decide) (da_cons (de_var c v_strong_breach_2) (da_cons (de_var c v_strong_breach_3) (da_cons (de_var c v_strong_breach_4) da_nil)))) da_nil))))) (ds_one (ds_ret (de_tup (da_cons (de_var c v_strong_breach_1) (da_cons (de_var c v_strong_breach_3) (da_cons (de_var c v_strong_breach_4) da_nil)))))) ds_nil)))))))
  (ds_one (ds_ret de_non)))
theorem o_strong_breach {sp_support_of : SpD} {sp_stepped : SpD} {sp_contains : SpD} (T : Tx mg) (C_support_of : Cl P w K mg base "support_of" 1 sp_support_of) (C_stepped : Cl P w K mg base "stepped" 1 sp_stepped) (C_contains : Cl P w K mg base "contains" 2 sp_contains) {f : Addr} {fd : FuncData} {sp : SpD} (Fu : Fun K "strong_breach" "strong_breach" s_strong_breach f fd) (hm : mg "strong_breach" = some (.ref f)) (len : ∀ xs st Q, sp xs st Q → xs.length = 1) (sem : ∀ xs st Q, sp xs st Q → rd_strong_breach sp_support_of sp_stepped sp_contains { nx := fun _ st' => Fg Q (.d .none) st', rt := Fg Q } (startD 5 xs) st) : Cl P w K mg base "strong_breach" 3 sp :=
  ⟨f, fd, ["ideal"], hm, Fu.kp, fn_ok Fu S_strong_breach len (d_strong_breach T C_support_of C_stepped C_contains) sem, Fu.binds fun _ _ _ _ _ _ us hl => match us, hl with | [_], _ => rfl⟩
abbrev s_stable_breach : Stmt := top 16
abbrev N_stable_breach : List Str := ["ideal", "place", "generator", "m", "j"]
theorem S_stable_breach : FnScope N_stable_breach ["ideal"] (defScope s_stable_breach) := ⟨rfl, rfl, rfl, by decide +kernel, rfl, by decide +kernel, by decide +kernel⟩
theorem v_stable_breach_0 : visB N_stable_breach (defScope s_stable_breach) 0 "ideal" = true := by decide +kernel
theorem v_stable_breach_1 : visB N_stable_breach (defScope s_stable_breach) 1 "place" = true := by decide +kernel
theorem l_stable_breach_1 : locB N_stable_breach (defScope s_stable_breach) (defScope s_stable_breach) 1 "place" = true := by decide +kernel
theorem v_stable_breach_2 : visB N_stable_breach (defScope s_stable_breach) 2 "generator" = true := by decide +kernel
theorem l_stable_breach_2 : locB N_stable_breach (defScope s_stable_breach) (defScope s_stable_breach) 2 "generator" = true := by decide +kernel
theorem v_stable_breach_3 : visB N_stable_breach (defScope s_stable_breach) 3 "m" = true := by decide +kernel
theorem l_stable_breach_3 : locB N_stable_breach (defScope s_stable_breach) (defScope s_stable_breach) 3 "m" = true := by decide +kernel
theorem v_stable_breach_4 : visB N_stable_breach (defScope s_stable_breach) 4 "j" = true := by decide +kernel
theorem l_stable_breach_4 : locB N_stable_breach (defScope s_stable_breach) (defScope s_stable_breach) 4 "j" = true := by decide +kernel
theorem g_stable_breach_enumerate : glB (defScope s_stable_breach) "enumerate" = true := by decide +kernel
theorem g_stable_breach_support_of : glB (defScope s_stable_breach) "support_of" = true := by decide +kernel
theorem g_stable_breach_range : glB (defScope s_stable_breach) "range" = true := by decide +kernel
theorem g_stable_breach_stepped : glB (defScope s_stable_breach) "stepped" = true := by decide +kernel
theorem g_stable_breach_contains : glB (defScope s_stable_breach) "contains" = true := by decide +kernel
set_option maxHeartbeats 4000000 in
theorem d_stable_breach {sp_support_of : SpD} {sp_stepped : SpD} {sp_contains : SpD} (T : Tx mg) (C_support_of : Cl P w K mg base "support_of" 1 sp_support_of) (C_stepped : Cl P w K mg base "stepped" 1 sp_stepped) (C_contains : Cl P w K mg base "contains" 2 sp_contains) : ∀ X, Cok P w K mg base X N_stable_breach (defScope s_stable_breach) (defScope s_stable_breach) 2 → DSs X (defBody s_stable_breach) (rd_stable_breach sp_support_of sp_stepped sp_contains) := fun X c =>
  (ds_cons (ds_for c (di_enum c g_stable_breach_enumerate T.b_enumerate (da_cons (de_ix (de_var c v_stable_breach_0) de_int (fun _ _ => rfl)) da_nil)) (dg_tup c (dgs_cons (dg_name c l_stable_breach_1) (dgs_cons (dg_name c l_stable_breach_2) dgs_nil))) (ds_one (ds_for c (di_seq (de_sl false (de_callC c g_stable_breach_support_of C_support_of (by decide) (da_cons (de_var c v_stable_breach_2) da_nil)) (do_some (de_neg de_int)) do_none)) (dg_name c l_stable_breach_3) (ds_one (ds_for c (di_rng1 c g_stable_breach_range T.b_range (da_cons (de_var c v_stable_breach_3) da_nil)) (dg_name c l_stable_breach_4) (ds_one (ds_if (dt_not (dt_val (de_callC c g_stable_breach_contains C_contains (by decide) (da_cons (de_var c v_stable_breach_0) (da_cons (de_callC c g_stable_breach_stepped C_stepped (by decide) (da_cons (de_var c v_stable_breach_2) (da_cons (de_var c v_stable_breach_3) (da_cons (de_var c v_stable_breach_4) da_nil)))) da_nil))))) (ds_one (ds_ret (de_tup (da_cons (de_var c v_stable_breach_1) (da_cons (de_var c v_stable_breach_4) da_nil))))) ds_nil)))))))
  (ds_one (ds_ret de_non)))
theorem o_stable_breach {sp_support_of : SpD} {sp_stepped : SpD} {sp_contains : SpD} (T : Tx mg) (C_support_of : Cl P w K mg base "support_of" 1 sp_support_of) (C_stepped : Cl P w K mg base "stepped" 1 sp_stepped) (C_contains : Cl P w K mg base "contains" 2 sp_contains) {f : Addr} {fd : FuncData} {sp : SpD} (Fu : Fun K "stable_breach" "stable_breach" s_stable_breach f fd) (hm : mg "stable_breach" = some (.ref f)) (len : ∀ xs st Q, sp xs st Q → xs.length = 1) (sem : ∀ xs st Q, sp xs st Q → rd_stable_breach sp_support_of sp_stepped sp_contains { nx := fun _ st' => Fg Q (.d .none) st', rt := Fg Q } (startD 5 xs) st) : Cl P w K mg base "stable_breach" 3 sp :=
  ⟨f, fd, ["ideal"], hm, Fu.kp, fn_ok Fu S_stable_breach len (d_stable_breach T C_support_of C_stepped C_contains) sem, Fu.binds fun _ _ _ _ _ _ us hl => match us, hl with | [_], _ => rfl⟩
abbrev s_law_right : Stmt := top 36
abbrev N_law_right : List Str := ["ideal", "generators", "strong", "weak"]
theorem S_law_right : FnScope N_law_right ["ideal"] (defScope s_law_right) := ⟨rfl, rfl, rfl, by decide +kernel, rfl, by decide +kernel, by decide +kernel⟩
theorem v_law_right_0 : visB N_law_right (defScope s_law_right) 0 "ideal" = true := by decide +kernel
theorem v_law_right_1 : visB N_law_right (defScope s_law_right) 1 "generators" = true := by decide +kernel
theorem l_law_right_1 : locB N_law_right (defScope s_law_right) (defScope s_law_right) 1 "generators" = true := by decide +kernel
theorem v_law_right_2 : visB N_law_right (defScope s_law_right) 2 "strong" = true := by decide +kernel
theorem v_law_right_3 : visB N_law_right (defScope s_law_right) 3 "weak" = true := by decide +kernel
theorem g_law_right_law_stable_place : glB (defScope s_law_right) "_law_stable_place" = true := by decide +kernel
theorem g_law_right_law_strong_place : glB (defScope s_law_right) "_law_strong_place" = true := by decide +kernel
theorem g_law_right_stable_breach : glB (defScope s_law_right) "stable_breach" = true := by decide +kernel
theorem g_law_right_strong_breach : glB (defScope s_law_right) "strong_breach" = true := by decide +kernel
theorem g_law_right_repr : glB (defScope s_law_right) "repr" = true := by decide +kernel
theorem g_law_right_stable_hull : glB (defScope s_law_right) "stable_hull" = true := by decide +kernel
set_option maxHeartbeats 4000000 in
theorem d_law_right {sp_law_stable_place : SpD} {sp_law_strong_place : SpD} {sp_stable_breach : SpD} {sp_strong_breach : SpD} {sp_stable_hull : SpD} (T : Tx mg) (C_law_stable_place : Cl P w K mg base "_law_stable_place" 3 sp_law_stable_place) (C_law_strong_place : Cl P w K mg base "_law_strong_place" 3 sp_law_strong_place) (C_stable_breach : Cl P w K mg base "stable_breach" 3 sp_stable_breach) (C_strong_breach : Cl P w K mg base "strong_breach" 3 sp_strong_breach) (C_stable_hull : Cl P w K mg base "stable_hull" 4 sp_stable_hull) : ∀ X, Cok P w K mg base X N_law_right (defScope s_law_right) (defScope s_law_right) 4 → X.A.guards = some [] → DSs X (defBody s_law_right) (rd_law_right sp_law_stable_place sp_law_strong_place sp_stable_breach sp_strong_breach sp_stable_hull) := fun X c hg =>
  (ds_cons (ds_asg c (de_ix (de_var c v_law_right_0) de_int (fun _ _ => rfl)) (dg_name c l_law_right_1) rfl rfl)
  (ds_cons (ds_par (i := 2) (j := 3) c (by decide +kernel) (da_cons (de_callC c g_law_right_law_strong_place C_law_strong_place (by decide) (da_cons (de_var c v_law_right_1) da_nil)) (da_cons (de_callC c g_law_right_law_stable_place C_law_stable_place (by decide) (da_cons (de_var c v_law_right_1) da_nil)) da_nil)) (by kernel_rfl))
  (ds_cons (ds_if (dt_cp op_qNeS rfl (de_cb c g_law_right_repr T.b_repr bb_repr (c_repr hg c.hu64) (da_cons (de_lst false (da_cons (de_callC c g_law_right_strong_breach C_strong_breach (by decide) (da_cons (de_var c v_law_right_0) da_nil)) (da_cons (de_callC c g_law_right_stable_breach C_stable_breach (by decide) (da_cons (de_var c v_law_right_0) da_nil)) da_nil))) da_nil)) (de_cb c g_law_right_repr T.b_repr bb_repr (c_repr hg c.hu64) (da_cons (de_lst false (da_cons (de_var c v_law_right_2) (da_cons (de_var c v_law_right_3) da_nil))) da_nil))) (ds_one (ds_ret de_bl)) ds_nil)
  (ds_cons (ds_if (DW.pt (dw_and (dt_cp op_qIsN rfl (de_var c v_law_right_2) de_non) (dw_and1 (dt_cp op_qNotN rfl (de_var c v_law_right_3) de_non)))) (ds_one (ds_ret de_bl)) ds_nil)
  (ds_one (ds_ret (de_cp (op_qEq c.hu64) rfl (de_cp (op_qEq c.hu64) rfl (de_callC c g_law_right_stable_hull C_stable_hull (by decide) (da_cons (de_ix (de_var c v_law_right_0) de_int (fun _ _ => rfl)) (da_cons (de_var c v_law_right_1) da_nil))) (de_var c v_law_right_0)) (de_cp op_qIsN rfl (de_var c v_law_right_2) de_non))))))))
theorem o_law_right {sp_law_stable_place : SpD} {sp_law_strong_place : SpD} {sp_stable_breach : SpD} {sp_strong_breach : SpD} {sp_stable_hull : SpD} (T : Tx mg) (C_law_stable_place : Cl P w K mg base "_law_stable_place" 3 sp_law_stable_place) (C_law_strong_place : Cl P w K mg base "_law_strong_place" 3 sp_law_strong_place) (C_stable_breach : Cl P w K mg base "stable_breach" 3 sp_stable_breach) (C_strong_breach : Cl P w K mg base "strong_breach" 3 sp_strong_breach) (C_stable_hull : Cl P w K mg base "stable_hull" 4 sp_stable_hull) {f : Addr} {fd : FuncData} {sp : SpD} (Fu : Fun K "_law_right" "_law_right" s_law_right f fd) (hm : mg "_law_right" = some (.ref f)) (len : ∀ xs st Q, sp xs st Q → xs.length = 1) (sem : ∀ xs st Q, sp xs st Q → rd_law_right sp_law_stable_place sp_law_strong_place sp_stable_breach sp_strong_breach sp_stable_hull { nx := fun _ st' => Fg Q (.d .none) st', rt := Fg Q } (startD 4 xs) st) : ClG P w K mg base "_law_right" 5 sp :=
  ⟨f, fd, ["ideal"], hm, Fu.kp, fnG_ok Fu S_law_right len (d_law_right T C_law_stable_place C_law_strong_place C_stable_breach C_strong_breach C_stable_hull) sem, Fu.binds fun _ _ _ _ _ _ us hl => match us, hl with | [_], _ => rfl⟩
abbrev s_law : Stmt := top 37
abbrev N_law : List Str := ["script", "k", "m", "n", "some", "hull", "generators", "turn", "a"]
theorem S_law : FnScope N_law ["script"] (defScope s_law) := ⟨rfl, rfl, rfl, by decide +kernel, rfl, by decide +kernel, by decide +kernel⟩
theorem v_law_0 : visB N_law (defScope s_law) 0 "script" = true := by decide +kernel
theorem v_law_1 : visB N_law (defScope s_law) 1 "k" = true := by decide +kernel
theorem l_law_1 : locB N_law (defScope s_law) (defScope s_law) 1 "k" = true := by decide +kernel
theorem v_law_2 : visB N_law (defScope s_law) 2 "m" = true := by decide +kernel
theorem l_law_2 : locB N_law (defScope s_law) (defScope s_law) 2 "m" = true := by decide +kernel
theorem v_law_3 : visB N_law (defScope s_law) 3 "n" = true := by decide +kernel
theorem l_law_3 : locB N_law (defScope s_law) (defScope s_law) 3 "n" = true := by decide +kernel
theorem v_law_4 : visB N_law (defScope s_law) 4 "some" = true := by decide +kernel
theorem v_law_5 : visB N_law (defScope s_law) 5 "hull" = true := by decide +kernel
theorem l_law_5 : locB N_law (defScope s_law) (defScope s_law) 5 "hull" = true := by decide +kernel
theorem v_law_6 : visB N_law (defScope s_law) 6 "generators" = true := by decide +kernel
theorem l_law_6 : locB N_law (defScope s_law) (defScope s_law) 6 "generators" = true := by decide +kernel
theorem g_law_range : glB (defScope s_law) "range" = true := by decide +kernel
theorem g_law_law_begun : glB (defScope s_law) "_law_begun" = true := by decide +kernel
theorem g_law_law_draw : glB (defScope s_law) "_law_draw" = true := by decide +kernel
theorem g_law_law_hull : glB (defScope s_law) "_law_hull" = true := by decide +kernel
theorem g_law_stable_hull : glB (defScope s_law) "stable_hull" = true := by decide +kernel
theorem g_law_tuple : glB (defScope s_law) "tuple" = true := by decide +kernel
theorem g_law_law_squarefree : glB (defScope s_law) "_law_squarefree" = true := by decide +kernel
theorem g_law_law_bent : glB (defScope s_law) "_law_bent" = true := by decide +kernel
theorem g_law_law_right : glB (defScope s_law) "_law_right" = true := by decide +kernel
set_option maxHeartbeats 4000000 in
theorem d_law {sp_law_begun : SpD} {sp_law_draw : SpD} {sp_law_monomial : SpD} {sp_law_hull : SpD} {sp_stable_hull : SpD} {sp_law_in : SpD} {sp_law_squarefree : SpD} {sp_law_bent : SpD} {sp_law_right : SpD} (T : Tx mg) (C_law_begun : Cl P w K mg base "_law_begun" 1 sp_law_begun) (C_law_draw : Cl P w K mg base "_law_draw" 1 sp_law_draw) (C_law_monomial : Cl P w K mg base "_law_monomial" 2 sp_law_monomial) (C_law_hull : Cl P w K mg base "_law_hull" 3 sp_law_hull) (C_stable_hull : Cl P w K mg base "stable_hull" 4 sp_stable_hull) (C_law_in : Cl P w K mg base "_law_in" 2 sp_law_in) (C_law_squarefree : Cl P w K mg base "_law_squarefree" 4 sp_law_squarefree) (C_law_bent : Cl P w K mg base "_law_bent" 3 sp_law_bent) (C_law_right : ClG P w K mg base "_law_right" 5 sp_law_right) : ∀ X, Cok P w K mg base X N_law (defScope s_law) (defScope s_law) 5 → X.A.guards = some [] → DSs X (defBody s_law) (rd_law sp_law_begun sp_law_draw sp_law_monomial sp_law_hull sp_stable_hull sp_law_in sp_law_squarefree sp_law_bent sp_law_right) := fun X c hg =>
  (ds_cons (ds_for c (di_rng1 c g_law_range T.b_range (da_cons de_int da_nil)) (dg_name c l_law_1) (ds_cons (ds_asg c (de_callC c g_law_law_begun C_law_begun (by decide) (da_cons (de_var c v_law_0) (da_cons (de_var c v_law_1) da_nil))) (dg_name c l_law_2) rfl rfl)
      (ds_cons (ds_asg c (de_bin (op_qAdd false) de_int (de_callC c g_law_law_draw C_law_draw (by decide) (da_cons (de_var c v_law_2) (da_cons de_int da_nil)))) (dg_name c l_law_3) rfl rfl)
      (ds_cons (ds_setLc (i := 4) false [("turn", 7)] c (by decide +kernel) (by kernel_rfl) (by decide +kernel) (by decide) (di_rng1 c g_law_range T.b_range (da_cons (de_bin (op_qAdd false) de_int (de_callC c g_law_law_draw C_law_draw (by decide) (da_cons (de_var c v_law_2) (da_cons de_int da_nil)))) da_nil)) (fun _ c1 => (dg_name c1 (by decide +kernel))) (fun _ c1 => dts_nil) (fun _ c1 => (de_callC c1 (by decide +kernel) C_law_monomial (by decide) (da_cons (de_var c1 (by decide +kernel)) (da_cons (de_var c1 (by decide +kernel)) (da_cons de_int da_nil))))))
      (ds_cons (ds_setLc (i := 4) false [("a", 8)] c (by decide +kernel) (by kernel_rfl) (by decide +kernel) (by decide) (di_seq (de_var c v_law_4)) (fun _ c1 => (dg_name c1 (by decide +kernel))) (fun _ c1 => (dts_one (dt_ch (op_qLt c1.hu0) op_qLe rfl de_int (de_cb c1 (by decide +kernel) T.b_sum bb_sum (c_sum c1.calm) (da_cons (de_var c1 (by decide +kernel)) da_nil)) de_int))) (fun _ c1 => (de_var c1 (by decide +kernel))))
      (ds_cons (ds_asg c (de_callC c g_law_law_hull C_law_hull (by decide) (da_cons (de_var c v_law_4) da_nil)) (dg_name c l_law_5) rfl rfl)
      (ds_cons (ds_if (DW.pt (dw_or (dt_cp (op_qNe c.hu64) rfl (de_callC c g_law_stable_hull C_stable_hull (by decide) (da_cons (de_var c v_law_3) (da_cons (de_var c v_law_4) da_nil))) (de_tup (da_cons (de_var c v_law_3) (da_cons (de_var c v_law_5) da_nil)))) (dw_or1 (dt_cp (op_qNe c.hu64) rfl (de_callC c g_law_stable_hull C_stable_hull (by decide) (da_cons (de_var c v_law_3) (da_cons (de_ct c g_law_tuple T.b_tuple bt_tuple c_tuple (da_cons (de_revL false (de_var c v_law_4)) da_nil)) da_nil))) (de_tup (da_cons (de_var c v_law_3) (da_cons (de_var c v_law_5) da_nil))))))) (ds_one (ds_ret de_bl)) ds_nil)
      (ds_cons (ds_if (dt_cp (op_qNe c.hu64) rfl (de_lc false [("a", 8)] c (by decide +kernel) (by decide) (di_seq (de_var c v_law_4)) (fun _ c1 => (dg_name c1 (by decide +kernel))) (fun _ c1 => (dts_one (dt_not (dt_val (de_callC c1 (by decide +kernel) C_law_in (by decide) (da_cons (de_var c1 (by decide +kernel)) (da_cons (de_var c1 (by decide +kernel)) da_nil))))))) (fun _ c1 => (de_var c1 (by decide +kernel)))) (de_lst false da_nil)) (ds_one (ds_ret de_bl)) ds_nil)
      (ds_one (ds_for c (di_seq (de_lst false (da_cons (de_var c v_law_5) (da_cons (de_callC c g_law_law_bent C_law_bent (by decide) (da_cons (de_var c v_law_2) (da_cons (de_var c v_law_5) da_nil))) (da_cons (de_ix (de_callC c g_law_law_squarefree C_law_squarefree (by decide) (da_cons (de_var c v_law_2) (da_cons (de_var c v_law_3) (da_cons de_int da_nil)))) de_int (fun _ _ => rfl)) da_nil))))) (dg_name c l_law_6) (ds_one (ds_if (dt_not (dt_val (de_callG hg c g_law_law_right C_law_right (by decide) (da_cons (de_tup (da_cons (de_var c v_law_3) (da_cons (de_var c v_law_6) da_nil))) da_nil)))) (ds_one (ds_ret de_bl)) ds_nil))))))))))))
  (ds_one (ds_ret (de_and (de_cp (op_qEq c.hu64) rfl (de_callC c g_law_stable_hull C_stable_hull (by decide) (da_cons de_int (da_cons (de_lst false (da_cons (de_tup (da_cons de_int (da_cons de_int da_nil))) (da_cons (de_tup (da_cons de_int (da_cons de_int da_nil))) da_nil))) da_nil))) (de_tup (da_cons de_int (da_cons (de_tup (da_cons (de_tup (da_cons de_int (da_cons de_int da_nil))) da_nil)) da_nil)))) (de_one (de_cp (op_qEq c.hu64) rfl (de_callC c g_law_stable_hull C_stable_hull (by decide) (da_cons de_int (da_cons (de_lst false da_nil) da_nil))) (de_tup (da_cons de_int (da_cons (de_tup da_nil) da_nil)))))))))
end
open U UC
theorem all_mk {l : PySem.W.OpenLaw} {w : World} {K : PySem.W.Frag} {h : Heap} {mg : Str → Option Value} {fa : Addr} (X : K.In h) (G : h.Ns mainGlobals mg) (hfa : mg "law" = some (.ref fa))
    {f_law_begun : Addr} {od_law_begun an_law_begun : Option Addr} {sl_law_begun : Array (Option Value)} {oc_law_begun kV_law_begun dc_law_begun pm_law_begun cd_law_begun ct_law_begun : Value}
    (a_law_begun : PySem.W.nsIn K mainGlobals "_law_begun" = some (some (.ref f_law_begun))) (l_law_begun : K.lookup f_law_begun = some ⟨oc_law_begun, od_law_begun, .func (PySem.W.fnOf "_law_begun" "_law_begun" (defArgs s_law_begun) (defBody s_law_begun) (defScope s_law_begun) .none kV_law_begun dc_law_begun pm_law_begun an_law_begun cd_law_begun ct_law_begun), sl_law_begun⟩) (cc_law_begun : PySem.W.codeIn K cd_law_begun "_law_begun" = true) (k_law_begun : PySem.W.keepIn K (.ref f_law_begun) = true)
    {f_law_divides : Addr} {od_law_divides an_law_divides : Option Addr} {sl_law_divides : Array (Option Value)} {oc_law_divides kV_law_divides dc_law_divides pm_law_divides cd_law_divides ct_law_divides : Value}
    (a_law_divides : PySem.W.nsIn K mainGlobals "_law_divides" = some (some (.ref f_law_divides))) (l_law_divides : K.lookup f_law_divides = some ⟨oc_law_divides, od_law_divides, .func (PySem.W.fnOf "_law_divides" "_law_divides" (defArgs s_law_divides) (defBody s_law_divides) (defScope s_law_divides) .none kV_law_divides dc_law_divides pm_law_divides an_law_divides cd_law_divides ct_law_divides), sl_law_divides⟩) (cc_law_divides : PySem.W.codeIn K cd_law_divides "_law_divides" = true) (k_law_divides : PySem.W.keepIn K (.ref f_law_divides) = true)
    {f_law_least : Addr} {od_law_least an_law_least : Option Addr} {sl_law_least : Array (Option Value)} {oc_law_least kV_law_least dc_law_least pm_law_least cd_law_least ct_law_least : Value}
    (a_law_least : PySem.W.nsIn K mainGlobals "_law_least" = some (some (.ref f_law_least))) (l_law_least : K.lookup f_law_least = some ⟨oc_law_least, od_law_least, .func (PySem.W.fnOf "_law_least" "_law_least" (defArgs s_law_least) (defBody s_law_least) (defScope s_law_least) .none kV_law_least dc_law_least pm_law_least an_law_least cd_law_least ct_law_least), sl_law_least⟩) (cc_law_least : PySem.W.codeIn K cd_law_least "_law_least" = true) (k_law_least : PySem.W.keepIn K (.ref f_law_least) = true)
    {f_law_moved : Addr} {od_law_moved an_law_moved : Option Addr} {sl_law_moved : Array (Option Value)} {oc_law_moved kV_law_moved dc_law_moved pm_law_moved cd_law_moved ct_law_moved : Value}
    (a_law_moved : PySem.W.nsIn K mainGlobals "_law_moved" = some (some (.ref f_law_moved))) (l_law_moved : K.lookup f_law_moved = some ⟨oc_law_moved, od_law_moved, .func (PySem.W.fnOf "_law_moved" "_law_moved" (defArgs s_law_moved) (defBody s_law_moved) (defScope s_law_moved) .none kV_law_moved dc_law_moved pm_law_moved an_law_moved cd_law_moved ct_law_moved), sl_law_moved⟩) (cc_law_moved : PySem.W.codeIn K cd_law_moved "_law_moved" = true) (k_law_moved : PySem.W.keepIn K (.ref f_law_moved) = true)
    {f_law_hull : Addr} {od_law_hull an_law_hull : Option Addr} {sl_law_hull : Array (Option Value)} {oc_law_hull kV_law_hull dc_law_hull pm_law_hull cd_law_hull ct_law_hull : Value}
    (a_law_hull : PySem.W.nsIn K mainGlobals "_law_hull" = some (some (.ref f_law_hull))) (l_law_hull : K.lookup f_law_hull = some ⟨oc_law_hull, od_law_hull, .func (PySem.W.fnOf "_law_hull" "_law_hull" (defArgs s_law_hull) (defBody s_law_hull) (defScope s_law_hull) .none kV_law_hull dc_law_hull pm_law_hull an_law_hull cd_law_hull ct_law_hull), sl_law_hull⟩) (cc_law_hull : PySem.W.codeIn K cd_law_hull "_law_hull" = true) (k_law_hull : PySem.W.keepIn K (.ref f_law_hull) = true)
    {f_law_draw : Addr} {od_law_draw an_law_draw : Option Addr} {sl_law_draw : Array (Option Value)} {oc_law_draw kV_law_draw dc_law_draw pm_law_draw cd_law_draw ct_law_draw : Value}
    (a_law_draw : PySem.W.nsIn K mainGlobals "_law_draw" = some (some (.ref f_law_draw))) (l_law_draw : K.lookup f_law_draw = some ⟨oc_law_draw, od_law_draw, .func (PySem.W.fnOf "_law_draw" "_law_draw" (defArgs s_law_draw) (defBody s_law_draw) (defScope s_law_draw) .none kV_law_draw dc_law_draw pm_law_draw an_law_draw cd_law_draw ct_law_draw), sl_law_draw⟩) (cc_law_draw : PySem.W.codeIn K cd_law_draw "_law_draw" = true) (k_law_draw : PySem.W.keepIn K (.ref f_law_draw) = true)
    {f_law_monomial : Addr} {od_law_monomial an_law_monomial : Option Addr} {sl_law_monomial : Array (Option Value)} {oc_law_monomial kV_law_monomial dc_law_monomial pm_law_monomial cd_law_monomial ct_law_monomial : Value}
    (a_law_monomial : PySem.W.nsIn K mainGlobals "_law_monomial" = some (some (.ref f_law_monomial))) (l_law_monomial : K.lookup f_law_monomial = some ⟨oc_law_monomial, od_law_monomial, .func (PySem.W.fnOf "_law_monomial" "_law_monomial" (defArgs s_law_monomial) (defBody s_law_monomial) (defScope s_law_monomial) .none kV_law_monomial dc_law_monomial pm_law_monomial an_law_monomial cd_law_monomial ct_law_monomial), sl_law_monomial⟩) (cc_law_monomial : PySem.W.codeIn K cd_law_monomial "_law_monomial" = true) (k_law_monomial : PySem.W.keepIn K (.ref f_law_monomial) = true)
    {f_law_bent : Addr} {od_law_bent an_law_bent : Option Addr} {sl_law_bent : Array (Option Value)} {oc_law_bent kV_law_bent dc_law_bent pm_law_bent cd_law_bent ct_law_bent : Value}
    (a_law_bent : PySem.W.nsIn K mainGlobals "_law_bent" = some (some (.ref f_law_bent))) (l_law_bent : K.lookup f_law_bent = some ⟨oc_law_bent, od_law_bent, .func (PySem.W.fnOf "_law_bent" "_law_bent" (defArgs s_law_bent) (defBody s_law_bent) (defScope s_law_bent) .none kV_law_bent dc_law_bent pm_law_bent an_law_bent cd_law_bent ct_law_bent), sl_law_bent⟩) (cc_law_bent : PySem.W.codeIn K cd_law_bent "_law_bent" = true) (k_law_bent : PySem.W.keepIn K (.ref f_law_bent) = true)
    {f_divides : Addr} {od_divides an_divides : Option Addr} {sl_divides : Array (Option Value)} {oc_divides kV_divides dc_divides pm_divides cd_divides ct_divides : Value}
    (a_divides : PySem.W.nsIn K mainGlobals "divides" = some (some (.ref f_divides))) (l_divides : K.lookup f_divides = some ⟨oc_divides, od_divides, .func (PySem.W.fnOf "divides" "divides" (defArgs s_divides) (defBody s_divides) (defScope s_divides) .none kV_divides dc_divides pm_divides an_divides cd_divides ct_divides), sl_divides⟩) (cc_divides : PySem.W.codeIn K cd_divides "divides" = true) (k_divides : PySem.W.keepIn K (.ref f_divides) = true)
    {f_least_ones : Addr} {od_least_ones an_least_ones : Option Addr} {sl_least_ones : Array (Option Value)} {oc_least_ones kV_least_ones dc_least_ones pm_least_ones cd_least_ones ct_least_ones : Value}
    (a_least_ones : PySem.W.nsIn K mainGlobals "least_ones" = some (some (.ref f_least_ones))) (l_least_ones : K.lookup f_least_ones = some ⟨oc_least_ones, od_least_ones, .func (PySem.W.fnOf "least_ones" "least_ones" (defArgs s_least_ones) (defBody s_least_ones) (defScope s_least_ones) .none kV_least_ones dc_least_ones pm_least_ones an_least_ones cd_least_ones ct_least_ones), sl_least_ones⟩) (cc_least_ones : PySem.W.codeIn K cd_least_ones "least_ones" = true) (k_least_ones : PySem.W.keepIn K (.ref f_least_ones) = true)
    {f_made : Addr} {od_made an_made : Option Addr} {sl_made : Array (Option Value)} {oc_made kV_made dc_made pm_made cd_made ct_made : Value}
    (a_made : PySem.W.nsIn K mainGlobals "made" = some (some (.ref f_made))) (l_made : K.lookup f_made = some ⟨oc_made, od_made, .func (PySem.W.fnOf "made" "made" (defArgs s_made) (defBody s_made) (defScope s_made) .none kV_made dc_made pm_made an_made cd_made ct_made), sl_made⟩) (cc_made : PySem.W.codeIn K cd_made "made" = true) (k_made : PySem.W.keepIn K (.ref f_made) = true)
    {f_support_of : Addr} {od_support_of an_support_of : Option Addr} {sl_support_of : Array (Option Value)} {oc_support_of kV_support_of dc_support_of pm_support_of cd_support_of ct_support_of : Value}
    (a_support_of : PySem.W.nsIn K mainGlobals "support_of" = some (some (.ref f_support_of))) (l_support_of : K.lookup f_support_of = some ⟨oc_support_of, od_support_of, .func (PySem.W.fnOf "support_of" "support_of" (defArgs s_support_of) (defBody s_support_of) (defScope s_support_of) .none kV_support_of dc_support_of pm_support_of an_support_of cd_support_of ct_support_of), sl_support_of⟩) (cc_support_of : PySem.W.codeIn K cd_support_of "support_of" = true) (k_support_of : PySem.W.keepIn K (.ref f_support_of) = true)
    {f_stepped : Addr} {od_stepped an_stepped : Option Addr} {sl_stepped : Array (Option Value)} {oc_stepped kV_stepped dc_stepped pm_stepped cd_stepped ct_stepped : Value}
    (a_stepped : PySem.W.nsIn K mainGlobals "stepped" = some (some (.ref f_stepped))) (l_stepped : K.lookup f_stepped = some ⟨oc_stepped, od_stepped, .func (PySem.W.fnOf "stepped" "stepped" (defArgs s_stepped) (defBody s_stepped) (defScope s_stepped) .none kV_stepped dc_stepped pm_stepped an_stepped cd_stepped ct_stepped), sl_stepped⟩) (cc_stepped : PySem.W.codeIn K cd_stepped "stepped" = true) (k_stepped : PySem.W.keepIn K (.ref f_stepped) = true)
    {f_steps_down : Addr} {od_steps_down an_steps_down : Option Addr} {sl_steps_down : Array (Option Value)} {oc_steps_down kV_steps_down dc_steps_down pm_steps_down cd_steps_down ct_steps_down : Value}
    (a_steps_down : PySem.W.nsIn K mainGlobals "steps_down" = some (some (.ref f_steps_down))) (l_steps_down : K.lookup f_steps_down = some ⟨oc_steps_down, od_steps_down, .func (PySem.W.fnOf "steps_down" "steps_down" (defArgs s_steps_down) (defBody s_steps_down) (defScope s_steps_down) .none kV_steps_down dc_steps_down pm_steps_down an_steps_down cd_steps_down ct_steps_down), sl_steps_down⟩) (cc_steps_down : PySem.W.codeIn K cd_steps_down "steps_down" = true) (k_steps_down : PySem.W.keepIn K (.ref f_steps_down) = true)
    {f_is_held : Addr} {od_is_held an_is_held : Option Addr} {sl_is_held : Array (Option Value)} {oc_is_held kV_is_held dc_is_held pm_is_held cd_is_held ct_is_held : Value}
    (a_is_held : PySem.W.nsIn K mainGlobals "is_held" = some (some (.ref f_is_held))) (l_is_held : K.lookup f_is_held = some ⟨oc_is_held, od_is_held, .func (PySem.W.fnOf "is_held" "is_held" (defArgs s_is_held) (defBody s_is_held) (defScope s_is_held) .none kV_is_held dc_is_held pm_is_held an_is_held cd_is_held ct_is_held), sl_is_held⟩) (cc_is_held : PySem.W.codeIn K cd_is_held "is_held" = true) (k_is_held : PySem.W.keepIn K (.ref f_is_held) = true)
    {f_added_degree : Addr} {od_added_degree an_added_degree : Option Addr} {sl_added_degree : Array (Option Value)} {oc_added_degree kV_added_degree dc_added_degree pm_added_degree cd_added_degree ct_added_degree : Value}
    (a_added_degree : PySem.W.nsIn K mainGlobals "added_degree" = some (some (.ref f_added_degree))) (l_added_degree : K.lookup f_added_degree = some ⟨oc_added_degree, od_added_degree, .func (PySem.W.fnOf "added_degree" "added_degree" (defArgs s_added_degree) (defBody s_added_degree) (defScope s_added_degree) .none kV_added_degree dc_added_degree pm_added_degree an_added_degree cd_added_degree ct_added_degree), sl_added_degree⟩) (cc_added_degree : PySem.W.codeIn K cd_added_degree "added_degree" = true) (k_added_degree : PySem.W.keepIn K (.ref f_added_degree) = true)
    {f_degree_of : Addr} {od_degree_of an_degree_of : Option Addr} {sl_degree_of : Array (Option Value)} {oc_degree_of kV_degree_of dc_degree_of pm_degree_of cd_degree_of ct_degree_of : Value}
    (a_degree_of : PySem.W.nsIn K mainGlobals "degree_of" = some (some (.ref f_degree_of))) (l_degree_of : K.lookup f_degree_of = some ⟨oc_degree_of, od_degree_of, .func (PySem.W.fnOf "degree_of" "degree_of" (defArgs s_degree_of) (defBody s_degree_of) (defScope s_degree_of) .none kV_degree_of dc_degree_of pm_degree_of an_degree_of cd_degree_of ct_degree_of), sl_degree_of⟩) (cc_degree_of : PySem.W.codeIn K cd_degree_of "degree_of" = true) (k_degree_of : PySem.W.keepIn K (.ref f_degree_of) = true)
    {f_stable_hull : Addr} {od_stable_hull an_stable_hull : Option Addr} {sl_stable_hull : Array (Option Value)} {oc_stable_hull kV_stable_hull dc_stable_hull pm_stable_hull cd_stable_hull ct_stable_hull : Value}
    (a_stable_hull : PySem.W.nsIn K mainGlobals "stable_hull" = some (some (.ref f_stable_hull))) (l_stable_hull : K.lookup f_stable_hull = some ⟨oc_stable_hull, od_stable_hull, .func (PySem.W.fnOf "stable_hull" "stable_hull" (defArgs s_stable_hull) (defBody s_stable_hull) (defScope s_stable_hull) .none kV_stable_hull dc_stable_hull pm_stable_hull an_stable_hull cd_stable_hull ct_stable_hull), sl_stable_hull⟩) (cc_stable_hull : PySem.W.codeIn K cd_stable_hull "stable_hull" = true) (k_stable_hull : PySem.W.keepIn K (.ref f_stable_hull) = true)
    {f_law_ideal : Addr} {od_law_ideal an_law_ideal : Option Addr} {sl_law_ideal : Array (Option Value)} {oc_law_ideal kV_law_ideal dc_law_ideal pm_law_ideal cd_law_ideal ct_law_ideal : Value}
    (a_law_ideal : PySem.W.nsIn K mainGlobals "_law_ideal" = some (some (.ref f_law_ideal))) (l_law_ideal : K.lookup f_law_ideal = some ⟨oc_law_ideal, od_law_ideal, .func (PySem.W.fnOf "_law_ideal" "_law_ideal" (defArgs s_law_ideal) (defBody s_law_ideal) (defScope s_law_ideal) .none kV_law_ideal dc_law_ideal pm_law_ideal an_law_ideal cd_law_ideal ct_law_ideal), sl_law_ideal⟩) (cc_law_ideal : PySem.W.codeIn K cd_law_ideal "_law_ideal" = true) (k_law_ideal : PySem.W.keepIn K (.ref f_law_ideal) = true)
    {f_law_squarefree : Addr} {od_law_squarefree an_law_squarefree : Option Addr} {sl_law_squarefree : Array (Option Value)} {oc_law_squarefree kV_law_squarefree dc_law_squarefree pm_law_squarefree cd_law_squarefree ct_law_squarefree : Value}
    (a_law_squarefree : PySem.W.nsIn K mainGlobals "_law_squarefree" = some (some (.ref f_law_squarefree))) (l_law_squarefree : K.lookup f_law_squarefree = some ⟨oc_law_squarefree, od_law_squarefree, .func (PySem.W.fnOf "_law_squarefree" "_law_squarefree" (defArgs s_law_squarefree) (defBody s_law_squarefree) (defScope s_law_squarefree) .none kV_law_squarefree dc_law_squarefree pm_law_squarefree an_law_squarefree cd_law_squarefree ct_law_squarefree), sl_law_squarefree⟩) (cc_law_squarefree : PySem.W.codeIn K cd_law_squarefree "_law_squarefree" = true) (k_law_squarefree : PySem.W.keepIn K (.ref f_law_squarefree) = true)
    {f_law_in : Addr} {od_law_in an_law_in : Option Addr} {sl_law_in : Array (Option Value)} {oc_law_in kV_law_in dc_law_in pm_law_in cd_law_in ct_law_in : Value}
    (a_law_in : PySem.W.nsIn K mainGlobals "_law_in" = some (some (.ref f_law_in))) (l_law_in : K.lookup f_law_in = some ⟨oc_law_in, od_law_in, .func (PySem.W.fnOf "_law_in" "_law_in" (defArgs s_law_in) (defBody s_law_in) (defScope s_law_in) .none kV_law_in dc_law_in pm_law_in an_law_in cd_law_in ct_law_in), sl_law_in⟩) (cc_law_in : PySem.W.codeIn K cd_law_in "_law_in" = true) (k_law_in : PySem.W.keepIn K (.ref f_law_in) = true)
    {f_law_strong_place : Addr} {od_law_strong_place an_law_strong_place : Option Addr} {sl_law_strong_place : Array (Option Value)} {oc_law_strong_place kV_law_strong_place dc_law_strong_place pm_law_strong_place cd_law_strong_place ct_law_strong_place : Value}
    (a_law_strong_place : PySem.W.nsIn K mainGlobals "_law_strong_place" = some (some (.ref f_law_strong_place))) (l_law_strong_place : K.lookup f_law_strong_place = some ⟨oc_law_strong_place, od_law_strong_place, .func (PySem.W.fnOf "_law_strong_place" "_law_strong_place" (defArgs s_law_strong_place) (defBody s_law_strong_place) (defScope s_law_strong_place) .none kV_law_strong_place dc_law_strong_place pm_law_strong_place an_law_strong_place cd_law_strong_place ct_law_strong_place), sl_law_strong_place⟩) (cc_law_strong_place : PySem.W.codeIn K cd_law_strong_place "_law_strong_place" = true) (k_law_strong_place : PySem.W.keepIn K (.ref f_law_strong_place) = true)
    {f_law_stable_place : Addr} {od_law_stable_place an_law_stable_place : Option Addr} {sl_law_stable_place : Array (Option Value)} {oc_law_stable_place kV_law_stable_place dc_law_stable_place pm_law_stable_place cd_law_stable_place ct_law_stable_place : Value}
    (a_law_stable_place : PySem.W.nsIn K mainGlobals "_law_stable_place" = some (some (.ref f_law_stable_place))) (l_law_stable_place : K.lookup f_law_stable_place = some ⟨oc_law_stable_place, od_law_stable_place, .func (PySem.W.fnOf "_law_stable_place" "_law_stable_place" (defArgs s_law_stable_place) (defBody s_law_stable_place) (defScope s_law_stable_place) .none kV_law_stable_place dc_law_stable_place pm_law_stable_place an_law_stable_place cd_law_stable_place ct_law_stable_place), sl_law_stable_place⟩) (cc_law_stable_place : PySem.W.codeIn K cd_law_stable_place "_law_stable_place" = true) (k_law_stable_place : PySem.W.keepIn K (.ref f_law_stable_place) = true)
    {f_contains : Addr} {od_contains an_contains : Option Addr} {sl_contains : Array (Option Value)} {oc_contains kV_contains dc_contains pm_contains cd_contains ct_contains : Value}
    (a_contains : PySem.W.nsIn K mainGlobals "contains" = some (some (.ref f_contains))) (l_contains : K.lookup f_contains = some ⟨oc_contains, od_contains, .func (PySem.W.fnOf "contains" "contains" (defArgs s_contains) (defBody s_contains) (defScope s_contains) .none kV_contains dc_contains pm_contains an_contains cd_contains ct_contains), sl_contains⟩) (cc_contains : PySem.W.codeIn K cd_contains "contains" = true) (k_contains : PySem.W.keepIn K (.ref f_contains) = true)
    {f_strong_breach : Addr} {od_strong_breach an_strong_breach : Option Addr} {sl_strong_breach : Array (Option Value)} {oc_strong_breach kV_strong_breach dc_strong_breach pm_strong_breach cd_strong_breach ct_strong_breach : Value}
    (a_strong_breach : PySem.W.nsIn K mainGlobals "strong_breach" = some (some (.ref f_strong_breach))) (l_strong_breach : K.lookup f_strong_breach = some ⟨oc_strong_breach, od_strong_breach, .func (PySem.W.fnOf "strong_breach" "strong_breach" (defArgs s_strong_breach) (defBody s_strong_breach) (defScope s_strong_breach) .none kV_strong_breach dc_strong_breach pm_strong_breach an_strong_breach cd_strong_breach ct_strong_breach), sl_strong_breach⟩) (cc_strong_breach : PySem.W.codeIn K cd_strong_breach "strong_breach" = true) (k_strong_breach : PySem.W.keepIn K (.ref f_strong_breach) = true)
    {f_stable_breach : Addr} {od_stable_breach an_stable_breach : Option Addr} {sl_stable_breach : Array (Option Value)} {oc_stable_breach kV_stable_breach dc_stable_breach pm_stable_breach cd_stable_breach ct_stable_breach : Value}
    (a_stable_breach : PySem.W.nsIn K mainGlobals "stable_breach" = some (some (.ref f_stable_breach))) (l_stable_breach : K.lookup f_stable_breach = some ⟨oc_stable_breach, od_stable_breach, .func (PySem.W.fnOf "stable_breach" "stable_breach" (defArgs s_stable_breach) (defBody s_stable_breach) (defScope s_stable_breach) .none kV_stable_breach dc_stable_breach pm_stable_breach an_stable_breach cd_stable_breach ct_stable_breach), sl_stable_breach⟩) (cc_stable_breach : PySem.W.codeIn K cd_stable_breach "stable_breach" = true) (k_stable_breach : PySem.W.keepIn K (.ref f_stable_breach) = true)
    {f_law_right : Addr} {od_law_right an_law_right : Option Addr} {sl_law_right : Array (Option Value)} {oc_law_right kV_law_right dc_law_right pm_law_right cd_law_right ct_law_right : Value}
    (a_law_right : PySem.W.nsIn K mainGlobals "_law_right" = some (some (.ref f_law_right))) (l_law_right : K.lookup f_law_right = some ⟨oc_law_right, od_law_right, .func (PySem.W.fnOf "_law_right" "_law_right" (defArgs s_law_right) (defBody s_law_right) (defScope s_law_right) .none kV_law_right dc_law_right pm_law_right an_law_right cd_law_right ct_law_right), sl_law_right⟩) (cc_law_right : PySem.W.codeIn K cd_law_right "_law_right" = true) (k_law_right : PySem.W.keepIn K (.ref f_law_right) = true)
    {f_law : Addr} {od_law an_law : Option Addr} {sl_law : Array (Option Value)} {oc_law kV_law dc_law pm_law cd_law ct_law : Value}
    (a_law : PySem.W.nsIn K mainGlobals "law" = some (some (.ref f_law))) (l_law : K.lookup f_law = some ⟨oc_law, od_law, .func (PySem.W.fnOf "law" "law" (defArgs s_law) (defBody s_law) (defScope s_law) .none kV_law dc_law pm_law an_law cd_law ct_law), sl_law⟩) (cc_law : PySem.W.codeIn K cd_law "law" = true) (k_law : PySem.W.keepIn K (.ref f_law) = true)
    (z_any : PySem.W.nsIn K mainGlobals "any" = some none)
    (z_enumerate : PySem.W.nsIn K mainGlobals "enumerate" = some none)
    (z_int : PySem.W.nsIn K mainGlobals "int" = some none)
    (z_len : PySem.W.nsIn K mainGlobals "len" = some none)
    (z_list : PySem.W.nsIn K mainGlobals "list" = some none)
    (z_max : PySem.W.nsIn K mainGlobals "max" = some none)
    (z_range : PySem.W.nsIn K mainGlobals "range" = some none)
    (z_repr : PySem.W.nsIn K mainGlobals "repr" = some none)
    (z_set : PySem.W.nsIn K mainGlobals "set" = some none)
    (z_sorted : PySem.W.nsIn K mainGlobals "sorted" = some none)
    (z_sum : PySem.W.nsIn K mainGlobals "sum" = some none)
    (z_tuple : PySem.W.nsIn K mainGlobals "tuple" = some none)
    (z_zip : PySem.W.nsIn K mainGlobals "zip" = some none)
    {t_MOST_EXPONENT : Tok} (y_MOST_EXPONENT : PySem.W.nsIn K mainGlobals "MOST_EXPONENT" = some (some (.int 60 t_MOST_EXPONENT)))
    {t_MOST_GENERATORS : Tok} (y_MOST_GENERATORS : PySem.W.nsIn K mainGlobals "MOST_GENERATORS" = some (some (.int 60 t_MOST_GENERATORS))) :
    ∃ fd : FuncData, (∀ (s : Shared) (v : Value), BindsTo s fd ⟨[v], []⟩ [("script", v)]) ∧ ∀ base : Heap, K.In base → base.Ns mainGlobals mg → L2.FnG l.prog w K mg base 6 fa fd ["script"] (hsp K sp_law) := by
  have e := hfa.symm.trans (PySem.W.mg_of X G a_law)
  cases e
  have T : Tx mg := ⟨PySem.W.mg_none_of X G z_any, PySem.W.mg_none_of X G z_enumerate, PySem.W.mg_none_of X G z_int, PySem.W.mg_none_of X G z_len, PySem.W.mg_none_of X G z_list, PySem.W.mg_none_of X G z_max, PySem.W.mg_none_of X G z_range, PySem.W.mg_none_of X G z_repr, PySem.W.mg_none_of X G z_set, PySem.W.mg_none_of X G z_sorted, PySem.W.mg_none_of X G z_sum, PySem.W.mg_none_of X G z_tuple, PySem.W.mg_none_of X G z_zip, ⟨_, PySem.W.mg_of X G y_MOST_EXPONENT⟩, ⟨_, PySem.W.mg_of X G y_MOST_GENERATORS⟩⟩
  refine ⟨PySem.W.fnOf "law" "law" (defArgs s_law) (defBody s_law) (defScope s_law) .none kV_law dc_law pm_law an_law cd_law ct_law, fun s v => .of_eq rfl, fun base _ _ => ?_⟩
  have C_law_begun : Cl l.prog w K mg base "_law_begun" 1 sp_law_begun := o_law_begun T  (fun_mk (st := s_law_begun) l_law_begun cc_law_begun k_law_begun) (PySem.W.mg_of X G a_law_begun) len_law_begun sem_law_begun
  have C_law_divides : Cl l.prog w K mg base "_law_divides" 1 sp_law_divides := o_law_divides T  (fun_mk (st := s_law_divides) l_law_divides cc_law_divides k_law_divides) (PySem.W.mg_of X G a_law_divides) len_law_divides sem_law_divides
  have C_law_least : Cl l.prog w K mg base "_law_least" 2 sp_law_least := o_law_least T C_law_divides (fun_mk (st := s_law_least) l_law_least cc_law_least k_law_least) (PySem.W.mg_of X G a_law_least) len_law_least sem_law_least
  have C_law_moved : Cl l.prog w K mg base "_law_moved" 1 sp_law_moved := o_law_moved T  (fun_mk (st := s_law_moved) l_law_moved cc_law_moved k_law_moved) (PySem.W.mg_of X G a_law_moved) len_law_moved sem_law_moved
  have C_law_hull : Cl l.prog w K mg base "_law_hull" 3 sp_law_hull := o_law_hull T C_law_moved C_law_least (fun_mk (st := s_law_hull) l_law_hull cc_law_hull k_law_hull) (PySem.W.mg_of X G a_law_hull) len_law_hull sem_law_hull
  have C_law_draw : Cl l.prog w K mg base "_law_draw" 1 sp_law_draw := o_law_draw T  (fun_mk (st := s_law_draw) l_law_draw cc_law_draw k_law_draw) (PySem.W.mg_of X G a_law_draw) len_law_draw sem_law_draw
  have C_law_monomial : Cl l.prog w K mg base "_law_monomial" 2 sp_law_monomial := o_law_monomial T C_law_draw (fun_mk (st := s_law_monomial) l_law_monomial cc_law_monomial k_law_monomial) (PySem.W.mg_of X G a_law_monomial) len_law_monomial sem_law_monomial
  have C_law_bent : Cl l.prog w K mg base "_law_bent" 3 sp_law_bent := o_law_bent T C_law_draw C_law_least (fun_mk (st := s_law_bent) l_law_bent cc_law_bent k_law_bent) (PySem.W.mg_of X G a_law_bent) len_law_bent sem_law_bent
  have C_divides : Cl l.prog w K mg base "divides" 1 sp_divides := o_divides T  (fun_mk (st := s_divides) l_divides cc_divides k_divides) (PySem.W.mg_of X G a_divides) len_divides sem_divides
  have C_least_ones : Cl l.prog w K mg base "least_ones" 2 sp_least_ones := o_least_ones T C_divides (fun_mk (st := s_least_ones) l_least_ones cc_least_ones k_least_ones) (PySem.W.mg_of X G a_least_ones) len_least_ones sem_least_ones
  have C_made : Cl l.prog w K mg base "made" 3 sp_made := o_made T C_least_ones (fun_mk (st := s_made) l_made cc_made k_made) (PySem.W.mg_of X G a_made) len_made sem_made
  have C_support_of : Cl l.prog w K mg base "support_of" 1 sp_support_of := o_support_of T  (fun_mk (st := s_support_of) l_support_of cc_support_of k_support_of) (PySem.W.mg_of X G a_support_of) len_support_of sem_support_of
  have C_stepped : Cl l.prog w K mg base "stepped" 1 sp_stepped := o_stepped T  (fun_mk (st := s_stepped) l_stepped cc_stepped k_stepped) (PySem.W.mg_of X G a_stepped) len_stepped sem_stepped
  have C_steps_down : Cl l.prog w K mg base "steps_down" 2 sp_steps_down := o_steps_down T C_support_of C_stepped (fun_mk (st := s_steps_down) l_steps_down cc_steps_down k_steps_down) (PySem.W.mg_of X G a_steps_down) len_steps_down sem_steps_down
  have C_is_held : Cl l.prog w K mg base "is_held" 2 sp_is_held := o_is_held T C_divides (fun_mk (st := s_is_held) l_is_held cc_is_held k_is_held) (PySem.W.mg_of X G a_is_held) len_is_held sem_is_held
  have C_added_degree : Cl l.prog w K mg base "added_degree" 3 sp_added_degree := o_added_degree T C_is_held C_steps_down (fun_mk (st := s_added_degree) l_added_degree cc_added_degree k_added_degree) (PySem.W.mg_of X G a_added_degree) len_added_degree sem_added_degree
  have C_degree_of : Cl l.prog w K mg base "degree_of" 1 sp_degree_of := o_degree_of T  (fun_mk (st := s_degree_of) l_degree_of cc_degree_of k_degree_of) (PySem.W.mg_of X G a_degree_of) len_degree_of sem_degree_of
  have C_stable_hull : Cl l.prog w K mg base "stable_hull" 4 sp_stable_hull := o_stable_hull T C_degree_of C_added_degree C_made (fun_mk (st := s_stable_hull) l_stable_hull cc_stable_hull k_stable_hull) (PySem.W.mg_of X G a_stable_hull) len_stable_hull sem_stable_hull
  have C_law_ideal : Cl l.prog w K mg base "_law_ideal" 3 sp_law_ideal := o_law_ideal T C_law_draw C_law_monomial C_law_least (fun_mk (st := s_law_ideal) l_law_ideal cc_law_ideal k_law_ideal) (PySem.W.mg_of X G a_law_ideal) len_law_ideal sem_law_ideal
  have C_law_squarefree : Cl l.prog w K mg base "_law_squarefree" 4 sp_law_squarefree := o_law_squarefree T C_law_ideal (fun_mk (st := s_law_squarefree) l_law_squarefree cc_law_squarefree k_law_squarefree) (PySem.W.mg_of X G a_law_squarefree) len_law_squarefree sem_law_squarefree
  have C_law_in : Cl l.prog w K mg base "_law_in" 2 sp_law_in := o_law_in T C_law_divides (fun_mk (st := s_law_in) l_law_in cc_law_in k_law_in) (PySem.W.mg_of X G a_law_in) len_law_in sem_law_in
  have C_law_strong_place : Cl l.prog w K mg base "_law_strong_place" 3 sp_law_strong_place := o_law_strong_place T C_law_moved C_law_in (fun_mk (st := s_law_strong_place) l_law_strong_place cc_law_strong_place k_law_strong_place) (PySem.W.mg_of X G a_law_strong_place) len_law_strong_place sem_law_strong_place
  have C_law_stable_place : Cl l.prog w K mg base "_law_stable_place" 3 sp_law_stable_place := o_law_stable_place T C_law_moved C_law_in (fun_mk (st := s_law_stable_place) l_law_stable_place cc_law_stable_place k_law_stable_place) (PySem.W.mg_of X G a_law_stable_place) len_law_stable_place sem_law_stable_place
  have C_contains : Cl l.prog w K mg base "contains" 2 sp_contains := o_contains T C_divides (fun_mk (st := s_contains) l_contains cc_contains k_contains) (PySem.W.mg_of X G a_contains) len_contains sem_contains
  have C_strong_breach : Cl l.prog w K mg base "strong_breach" 3 sp_strong_breach := o_strong_breach T C_support_of C_stepped C_contains (fun_mk (st := s_strong_breach) l_strong_breach cc_strong_breach k_strong_breach) (PySem.W.mg_of X G a_strong_breach) len_strong_breach sem_strong_breach
  have C_stable_breach : Cl l.prog w K mg base "stable_breach" 3 sp_stable_breach := o_stable_breach T C_support_of C_stepped C_contains (fun_mk (st := s_stable_breach) l_stable_breach cc_stable_breach k_stable_breach) (PySem.W.mg_of X G a_stable_breach) len_stable_breach sem_stable_breach
  have C_law_right : ClG l.prog w K mg base "_law_right" 5 sp_law_right := o_law_right T C_law_stable_place C_law_strong_place C_stable_breach C_strong_breach C_stable_hull (fun_mk (st := s_law_right) l_law_right cc_law_right k_law_right) (PySem.W.mg_of X G a_law_right) len_law_right sem_law_right
  exact fnG_ok (fun_mk (st := s_law) l_law cc_law k_law) S_law len_law (d_law T C_law_begun C_law_draw C_law_monomial C_law_hull C_stable_hull C_law_in C_law_squarefree C_law_bent C_law_right) sem_law
theorem walk {l : PySem.W.OpenLaw} {q : Program} {loose : List Str} {XP : (Str → Option Value) → Heap → Prop} {YP : World → Heap → Prop} {d : DefRec} {K : Params → PySem.W.Frag} (hn : l.most = some 63) (hdf : d.params.defaults = [])
    (hY : ∀ (w : World) (h : Heap), YP w h → (K w.params).In h)
    (F : ∀ (w : World) (mg : Str → Option Value) (fa : Addr) (h : Heap), (K w.params).In h → h.Ns mainGlobals mg → mg d.name = some (.ref fa) →
      ∃ fd : FuncData, (∀ (s : Shared) (u : Value), BindsTo s fd ⟨[u], []⟩ [("script", u)]) ∧ ∀ base : Heap, (K w.params).In base → base.Ns mainGlobals mg → L2.FnG l.prog w (K w.params) mg base 6 fa fd ["script"] (hsp (K w.params) sp_law)) :
    PySem.W.WalkO q loose XP YP l.row.toRowW d [] (fun f vs => PySem.call f vs) :=
  L2.walk_ofG (n := 63) (k := 6) (x := "script") (sp := fun w => hsp (K w.params) sp_law) hn (by decide) hdf ⟨rfl, by decide, by decide⟩ hY F (fun w H a ns hl hb hS => law_start U.law_true hl hb hS)
end GD
open PySem PySem.W PyProof.Rows in
set_option maxRecDepth 100000 in
set_option maxHeartbeats 0 in
theorem PySem.Challenge.cw_jointneeds_k84_stable_ideals_holds : PySem.Challenge.rw_jointneeds_k84_stable_ideals.Holds := by
  refine head_k84 ?_
  k_fill
  refine GD.walk (l := PySem.Challenge.rw_jointneeds_k84_stable_ideals) rfl rfl (fun w h Y => PySem.W.kIn_of Y) ?F
  case F =>
    intro w mg fa h KX G hmg
    refine' GD.all_mk KX G hmg ?a_law_begun ?l_law_begun ?cc_law_begun ?k_law_begun ?a_law_divides ?l_law_divides ?cc_law_divides ?k_law_divides ?a_law_least ?l_law_least ?cc_law_least ?k_law_least ?a_law_moved ?l_law_moved ?cc_law_moved ?k_law_moved ?a_law_hull ?l_law_hull ?cc_law_hull ?k_law_hull ?a_law_draw ?l_law_draw ?cc_law_draw ?k_law_draw ?a_law_monomial ?l_law_monomial ?cc_law_monomial ?k_law_monomial ?a_law_bent ?l_law_bent ?cc_law_bent ?k_law_bent ?a_divides ?l_divides ?cc_divides ?k_divides ?a_least_ones ?l_least_ones ?cc_least_ones ?k_least_ones ?a_made ?l_made ?cc_made ?k_made ?a_support_of ?l_support_of ?cc_support_of ?k_support_of ?a_stepped ?l_stepped ?cc_stepped ?k_stepped ?a_steps_down ?l_steps_down ?cc_steps_down ?k_steps_down ?a_is_held ?l_is_held ?cc_is_held ?k_is_held ?a_added_degree ?l_added_degree ?cc_added_degree ?k_added_degree ?a_degree_of ?l_degree_of ?cc_degree_of ?k_degree_of ?a_stable_hull ?l_stable_hull ?cc_stable_hull ?k_stable_hull ?a_law_ideal ?l_law_ideal ?cc_law_ideal ?k_law_ideal ?a_law_squarefree ?l_law_squarefree ?cc_law_squarefree ?k_law_squarefree ?a_law_in ?l_law_in ?cc_law_in ?k_law_in ?a_law_strong_place ?l_law_strong_place ?cc_law_strong_place ?k_law_strong_place ?a_law_stable_place ?l_law_stable_place ?cc_law_stable_place ?k_law_stable_place ?a_contains ?l_contains ?cc_contains ?k_contains ?a_strong_breach ?l_strong_breach ?cc_strong_breach ?k_strong_breach ?a_stable_breach ?l_stable_breach ?cc_stable_breach ?k_stable_breach ?a_law_right ?l_law_right ?cc_law_right ?k_law_right ?a_law ?l_law ?cc_law ?k_law ?z_any ?z_enumerate ?z_int ?z_len ?z_list ?z_max ?z_range ?z_repr ?z_set ?z_sorted ?z_sum ?z_tuple ?z_zip ?y_MOST_EXPONENT ?y_MOST_GENERATORS
    (case a_law_begun => k_is)
    (case l_law_begun => k_is)
    (case cc_law_begun => k_is)
    (case k_law_begun => k_is)
    (case a_law_divides => k_is)
    (case l_law_divides => k_is)
    (case cc_law_divides => k_is)
    (case k_law_divides => k_is)
    (case a_law_least => k_is)
    (case l_law_least => k_is)
    (case cc_law_least => k_is)
    (case k_law_least => k_is)
    (case a_law_moved => k_is)
    (case l_law_moved => k_is)
    (case cc_law_moved => k_is)
    (case k_law_moved => k_is)
    (case a_law_hull => k_is)
    (case l_law_hull => k_is)
    (case cc_law_hull => k_is)
    (case k_law_hull => k_is)
    (case a_law_draw => k_is)
    (case l_law_draw => k_is)
    (case cc_law_draw => k_is)
    (case k_law_draw => k_is)
    (case a_law_monomial => k_is)
    (case l_law_monomial => k_is)
    (case cc_law_monomial => k_is)
    (case k_law_monomial => k_is)
    (case a_law_bent => k_is)
    (case l_law_bent => k_is)
    (case cc_law_bent => k_is)
    (case k_law_bent => k_is)
    (case a_divides => k_is)
    (case l_divides => k_is)
    (case cc_divides => k_is)
    (case k_divides => k_is)
    (case a_least_ones => k_is)
    (case l_least_ones => k_is)
    (case cc_least_ones => k_is)
    (case k_least_ones => k_is)
    (case a_made => k_is)
    (case l_made => k_is)
    (case cc_made => k_is)
    (case k_made => k_is)
    (case a_support_of => k_is)
    (case l_support_of => k_is)
    (case cc_support_of => k_is)
    (case k_support_of => k_is)
    (case a_stepped => k_is)
    (case l_stepped => k_is)
    (case cc_stepped => k_is)
    (case k_stepped => k_is)
    (case a_steps_down => k_is)
    (case l_steps_down => k_is)
    (case cc_steps_down => k_is)
    (case k_steps_down => k_is)
    (case a_is_held => k_is)
    (case l_is_held => k_is)
    (case cc_is_held => k_is)
    (case k_is_held => k_is)
    (case a_added_degree => k_is)
    (case l_added_degree => k_is)
    (case cc_added_degree => k_is)
    (case k_added_degree => k_is)
    (case a_degree_of => k_is)
    (case l_degree_of => k_is)
    (case cc_degree_of => k_is)
    (case k_degree_of => k_is)
    (case a_stable_hull => k_is)
    (case l_stable_hull => k_is)
    (case cc_stable_hull => k_is)
    (case k_stable_hull => k_is)
    (case a_law_ideal => k_is)
    (case l_law_ideal => k_is)
    (case cc_law_ideal => k_is)
    (case k_law_ideal => k_is)
    (case a_law_squarefree => k_is)
    (case l_law_squarefree => k_is)
    (case cc_law_squarefree => k_is)
    (case k_law_squarefree => k_is)
    (case a_law_in => k_is)
    (case l_law_in => k_is)
    (case cc_law_in => k_is)
    (case k_law_in => k_is)
    (case a_law_strong_place => k_is)
    (case l_law_strong_place => k_is)
    (case cc_law_strong_place => k_is)
    (case k_law_strong_place => k_is)
    (case a_law_stable_place => k_is)
    (case l_law_stable_place => k_is)
    (case cc_law_stable_place => k_is)
    (case k_law_stable_place => k_is)
    (case a_contains => k_is)
    (case l_contains => k_is)
    (case cc_contains => k_is)
    (case k_contains => k_is)
    (case a_strong_breach => k_is)
    (case l_strong_breach => k_is)
    (case cc_strong_breach => k_is)
    (case k_strong_breach => k_is)
    (case a_stable_breach => k_is)
    (case l_stable_breach => k_is)
    (case cc_stable_breach => k_is)
    (case k_stable_breach => k_is)
    (case a_law_right => k_is)
    (case l_law_right => k_is)
    (case cc_law_right => k_is)
    (case k_law_right => k_is)
    (case a_law => k_is)
    (case l_law => k_is)
    (case cc_law => k_is)
    (case k_law => k_is)
    (case z_any => k_is)
    (case z_enumerate => k_is)
    (case z_int => k_is)
    (case z_len => k_is)
    (case z_list => k_is)
    (case z_max => k_is)
    (case z_range => k_is)
    (case z_repr => k_is)
    (case z_set => k_is)
    (case z_sorted => k_is)
    (case z_sum => k_is)
    (case z_tuple => k_is)
    (case z_zip => k_is)
    (case y_MOST_EXPONENT => k_is)
    (case y_MOST_GENERATORS => k_is)
end
